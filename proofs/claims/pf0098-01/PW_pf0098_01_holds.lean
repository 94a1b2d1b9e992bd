import PyProof.Rows.All
import Wide.All
import OpenK.AllK
import Wide.FinOn
import PyProof.ZipIter
import PyProof.ExcInit
import PyProof.ExcClass2
import PyProof.ExcArgs
import PyProof.ExcAttrAll.Exception
import PyProof.RulesAs
import PyProof.RulesDel
import PySem.Challenge.RW_pf0098_01
set_option Elab.async false
/-! part T3 -/
section
open PySem PySem.W PyProof.Rows
set_option maxRecDepth 100000
set_option maxHeartbeats 8000000
namespace Mine
noncomputable def stAt (i : Nat) : Stmt := match PySem.Challenge.rw_pf0098_01.prog.main.body[i]? with | some s => s | none => .Pass ⟨0, 0, 0, 0⟩
noncomputable def inAt (i j : Nat) : Stmt := match stAt i with | .ClassDef _ _ _ b .. => (match b[j]? with | some s => s | none => .Pass ⟨0, 0, 0, 0⟩) | s => s
noncomputable def aOf : Stmt → Arguments | .FunctionDef _ a .. => a | _ => { posonlyargs := [], args := [], vararg := none, kwonlyargs := [], kw_defaults := [], kwarg := none, defaults := [] }
noncomputable def bOf : Stmt → List Stmt | .FunctionDef _ _ b .. => b | _ => []
noncomputable def cOf : Stmt → Scope | .FunctionDef _ _ _ _ _ _ c .. => c | _ => { kind := .function, names := [], isGenerator := false, isCoroutine := false }
noncomputable abbrev sO := Str.ofString
noncomputable abbrev vN : Value := .none
noncomputable abbrev vs (s : String) (t : Nat) : Value := .str (Str.ofString s) t
noncomputable abbrev vi (i : Int) (t : Nat) : Value := .int i t
noncomputable abbrev vr (a : Nat) : Value := .ref a
noncomputable abbrev dE (P : Params) (s : String) (t : Nat) (v : Value) : DictEntry := { hash := PyData.keyHash P (Str.ofString s), key := .str (Str.ofString s) t, val := v }
noncomputable abbrev fO (n q : String) (s : Stmt) (m : String) (t c : Nat) : Obj := { cls := .type "function", data := .func { name := Str.ofString n, qualname := Str.ofString q, params := aOf s, body := .stmts (bOf s), scope := cOf s, globals := 3, closure := [], defaults := .none, kwdefaults := .none, pyModule := .str (Str.ofString m) t, code := .ref c } }
noncomputable abbrev gO (n q : String) (s : Stmt) : Obj := { cls := .none, data := .func { name := Str.ofString n, qualname := Str.ofString q, params := aOf s, body := .stmts (bOf s), scope := cOf s, globals := 0, closure := [], defaults := .none, kwdefaults := .none } }
noncomputable abbrev tO (x : Array Value) : Obj := { cls := .type "tuple", data := .seq x }
noncomputable abbrev cO (x : Array Value) : Obj := { cls := .type "code", data := .fields x }
noncomputable abbrev PR : Program := PySem.Challenge.rw_pf0098_01.row.prog
noncomputable abbrev BO : List Stmt := behindTheImports PR
noncomputable def EN : Env := { scope := PR.main.scope, locals := mainNs, globals := mainNs, cells := [], code := .ref 13, frame := some 14 }
noncomputable abbrev CE : Code := .body BO EN
noncomputable abbrev PQ : Pos := ⟨0, 0, 0, 0⟩
noncomputable def u2 (P : Params) : Obj := { cls := vN, data := Data.dict #[dE P "type.__subclasses__.Exception.0" 239 (vi 52 0), dE P "type.__subclasses__.Exception.n" 240 (vi 1 0)] 2 }
noncomputable def u3v5 (P : Params) : Obj := { cls := Value.type "dict", data := Data.dict #[dE P "__name__" 165 (vs "chess.errors" 212), dE P "__doc__" 166 (vN), dE P "__package__" 167 (vN), dE P "__loader__" 168 (Value.builtin "__main__.__loader__#opaque"), dE P "__spec__" 169 (vN), dE P "__annotations__" 170 (vr 6), dE P "__builtins__" 171 (vr 4), dE P "__file__" 173 (vs "/claim/cut.py" 172), dE P "__cached__" 174 (vN), dE P "more_than_one" 195 (vr 21), dE P "highest" 204 (vr 28), dE P "lowest" 211 (vr 35), dE P "ChessError" 242 (vr 52)] 13 }
noncomputable def u3v17 (P : Params) : Obj := { cls := Value.type "dict", data := Data.dict #[dE P "__name__" 165 (vs "chess.position" 305), dE P "__doc__" 166 (vN), dE P "__package__" 167 (vN), dE P "__loader__" 168 (Value.builtin "__main__.__loader__#opaque"), dE P "__spec__" 169 (vN), dE P "__annotations__" 170 (vr 6), dE P "__builtins__" 171 (vr 4), dE P "__file__" 173 (vs "/claim/cut.py" 172), dE P "__cached__" 174 (vN), dE P "more_than_one" 195 (vr 21), dE P "highest" 204 (vr 28), dE P "lowest" 211 (vr 35), dE P "ChessError" 242 (vr 52), dE P "BadPosition" 268 (vr 72), dE P "WHITE" 272 (vi 0 271), dE P "BLACK" 274 (vi 1 273), dE P "PAWN" 276 (vi 1 275), dE P "ROOK" 278 (vi 4 277), dE P "KING" 280 (vi 6 279), dE P "EMPTY" 282 (vi 0 281), dE P "make_piece" 290 (vr 81), dE P "side_of" 297 (vr 88), dE P "kind_of" 304 (vr 95)] 23 }
noncomputable def u3v27 (P : Params) : Obj := { cls := Value.type "dict", data := Data.dict #[dE P "__name__" 165 (vs "chess.position" 305), dE P "__doc__" 166 (vN), dE P "__package__" 167 (vN), dE P "__loader__" 168 (Value.builtin "__main__.__loader__#opaque"), dE P "__spec__" 169 (vN), dE P "__annotations__" 170 (vr 6), dE P "__builtins__" 171 (vr 4), dE P "__file__" 173 (vs "/claim/cut.py" 172), dE P "__cached__" 174 (vN), dE P "more_than_one" 195 (vr 21), dE P "highest" 204 (vr 28), dE P "lowest" 211 (vr 35), dE P "ChessError" 242 (vr 52), dE P "BadPosition" 268 (vr 72), dE P "WHITE" 272 (vi 0 271), dE P "BLACK" 274 (vi 1 273), dE P "PAWN" 276 (vi 1 275), dE P "ROOK" 278 (vi 4 277), dE P "KING" 280 (vi 6 279), dE P "EMPTY" 282 (vi 0 281), dE P "make_piece" 290 (vr 81), dE P "side_of" 297 (vr 88), dE P "kind_of" 304 (vr 95), dE P "Position" 347 (vr 112), dE P "pieces" 356 (vr 123), dE P "ep_stands" 367 (vr 130), dE P "ep_attacked" 375 (vr 137), dE P "check_boards" 389 (vr 144), dE P "check_kings" 398 (vr 151), dE P "check_pawns" 407 (vr 158), dE P "check_rights" 416 (vr 165), dE P "check_ep" 423 (vr 172), dE P "check_position" 430 (vr 179)] 33 }
noncomputable def u3v31 (P : Params) : Obj := { cls := Value.type "dict", data := Data.dict #[dE P "__name__" 165 (vs "chess.geometry" 431), dE P "__doc__" 166 (vN), dE P "__package__" 167 (vN), dE P "__loader__" 168 (Value.builtin "__main__.__loader__#opaque"), dE P "__spec__" 169 (vN), dE P "__annotations__" 170 (vr 6), dE P "__builtins__" 171 (vr 4), dE P "__file__" 173 (vs "/claim/cut.py" 172), dE P "__cached__" 174 (vN), dE P "more_than_one" 195 (vr 21), dE P "highest" 204 (vr 28), dE P "lowest" 211 (vr 35), dE P "ChessError" 242 (vr 52), dE P "BadPosition" 268 (vr 72), dE P "WHITE" 272 (vi 0 271), dE P "BLACK" 274 (vi 1 273), dE P "PAWN" 276 (vi 1 275), dE P "ROOK" 278 (vi 4 277), dE P "KING" 280 (vi 6 279), dE P "EMPTY" 282 (vi 0 281), dE P "make_piece" 290 (vr 81), dE P "side_of" 297 (vr 88), dE P "kind_of" 304 (vr 95), dE P "Position" 347 (vr 112), dE P "pieces" 356 (vr 123), dE P "ep_stands" 367 (vr 130), dE P "ep_attacked" 375 (vr 137), dE P "check_boards" 389 (vr 144), dE P "check_kings" 398 (vr 151), dE P "check_pawns" 407 (vr 158), dE P "check_rights" 416 (vr 165), dE P "check_ep" 423 (vr 172), dE P "check_position" 430 (vr 179), dE P "STEP_FILES" 444 (vr 180), dE P "STEP_RANKS" 456 (vr 181), dE P "Geometry" 501 (vr 198)] 36 }
noncomputable def u3v40 (P : Params) : Obj := { cls := Value.type "dict", data := Data.dict #[dE P "__name__" 165 (vs "chess.zobrist" 592), dE P "__doc__" 166 (vN), dE P "__package__" 167 (vN), dE P "__loader__" 168 (Value.builtin "__main__.__loader__#opaque"), dE P "__spec__" 169 (vN), dE P "__annotations__" 170 (vr 6), dE P "__builtins__" 171 (vr 4), dE P "__file__" 173 (vs "/claim/cut.py" 172), dE P "__cached__" 174 (vN), dE P "more_than_one" 195 (vr 21), dE P "highest" 204 (vr 28), dE P "lowest" 211 (vr 35), dE P "ChessError" 242 (vr 52), dE P "BadPosition" 268 (vr 72), dE P "WHITE" 272 (vi 0 271), dE P "BLACK" 274 (vi 1 273), dE P "PAWN" 276 (vi 1 275), dE P "ROOK" 278 (vi 4 277), dE P "KING" 280 (vi 6 279), dE P "EMPTY" 282 (vi 0 281), dE P "make_piece" 290 (vr 81), dE P "side_of" 297 (vr 88), dE P "kind_of" 304 (vr 95), dE P "Position" 347 (vr 112), dE P "pieces" 356 (vr 123), dE P "ep_stands" 367 (vr 130), dE P "ep_attacked" 375 (vr 137), dE P "check_boards" 389 (vr 144), dE P "check_kings" 398 (vr 151), dE P "check_pawns" 407 (vr 158), dE P "check_rights" 416 (vr 165), dE P "check_ep" 423 (vr 172), dE P "check_position" 430 (vr 179), dE P "STEP_FILES" 444 (vr 180), dE P "STEP_RANKS" 456 (vr 181), dE P "Geometry" 501 (vr 198), dE P "is_growing" 508 (vr 209), dE P "add_masks" 519 (vr 216), dE P "inner_squares" 528 (vr 223), dE P "add_rays" 542 (vr 230), dE P "add_pawns" 550 (vr 237), dE P "add_knights" 567 (vr 244), dE P "add_castles" 580 (vr 251), dE P "make_geometry" 591 (vr 258)] 44 }
noncomputable def u3v45 (P : Params) : Obj := { cls := Value.type "dict", data := Data.dict #[dE P "__name__" 165 (vs "law_pf0098_01" 629), dE P "__doc__" 166 (vN), dE P "__package__" 167 (vN), dE P "__loader__" 168 (Value.builtin "__main__.__loader__#opaque"), dE P "__spec__" 169 (vN), dE P "__annotations__" 170 (vr 6), dE P "__builtins__" 171 (vr 4), dE P "__file__" 173 (vs "/claim/cut.py" 172), dE P "__cached__" 174 (vN), dE P "more_than_one" 195 (vr 21), dE P "highest" 204 (vr 28), dE P "lowest" 211 (vr 35), dE P "ChessError" 242 (vr 52), dE P "BadPosition" 268 (vr 72), dE P "WHITE" 272 (vi 0 271), dE P "BLACK" 274 (vi 1 273), dE P "PAWN" 276 (vi 1 275), dE P "ROOK" 278 (vi 4 277), dE P "KING" 280 (vi 6 279), dE P "EMPTY" 282 (vi 0 281), dE P "make_piece" 290 (vr 81), dE P "side_of" 297 (vr 88), dE P "kind_of" 304 (vr 95), dE P "Position" 347 (vr 112), dE P "pieces" 356 (vr 123), dE P "ep_stands" 367 (vr 130), dE P "ep_attacked" 375 (vr 137), dE P "check_boards" 389 (vr 144), dE P "check_kings" 398 (vr 151), dE P "check_pawns" 407 (vr 158), dE P "check_rights" 416 (vr 165), dE P "check_ep" 423 (vr 172), dE P "check_position" 430 (vr 179), dE P "STEP_FILES" 444 (vr 180), dE P "STEP_RANKS" 456 (vr 181), dE P "Geometry" 501 (vr 198), dE P "is_growing" 508 (vr 209), dE P "add_masks" 519 (vr 216), dE P "inner_squares" 528 (vr 223), dE P "add_rays" 542 (vr 230), dE P "add_pawns" 550 (vr 237), dE P "add_knights" 567 (vr 244), dE P "add_castles" 580 (vr 251), dE P "make_geometry" 591 (vr 258), dE P "Zobrist" 628 (vr 275), dE P "_law_forms" 637 (vr 283), dE P "_law_known" 651 (vr 284), dE P "_law_lot" 660 (vr 291)] 48 }
noncomputable def u3 (P : Params) : Obj := { cls := Value.type "dict", data := Data.dict #[dE P "__name__" 165 (vs "law_pf0098_01" 629), dE P "__doc__" 166 (vN), dE P "__package__" 167 (vN), dE P "__loader__" 168 (Value.builtin "__main__.__loader__#opaque"), dE P "__spec__" 169 (vN), dE P "__annotations__" 170 (vr 6), dE P "__builtins__" 171 (vr 4), dE P "__file__" 173 (vs "/claim/cut.py" 172), dE P "__cached__" 174 (vN), dE P "more_than_one" 195 (vr 21), dE P "highest" 204 (vr 28), dE P "lowest" 211 (vr 35), dE P "ChessError" 242 (vr 52), dE P "BadPosition" 268 (vr 72), dE P "WHITE" 272 (vi 0 271), dE P "BLACK" 274 (vi 1 273), dE P "PAWN" 276 (vi 1 275), dE P "ROOK" 278 (vi 4 277), dE P "KING" 280 (vi 6 279), dE P "EMPTY" 282 (vi 0 281), dE P "make_piece" 290 (vr 81), dE P "side_of" 297 (vr 88), dE P "kind_of" 304 (vr 95), dE P "Position" 347 (vr 112), dE P "pieces" 356 (vr 123), dE P "ep_stands" 367 (vr 130), dE P "ep_attacked" 375 (vr 137), dE P "check_boards" 389 (vr 144), dE P "check_kings" 398 (vr 151), dE P "check_pawns" 407 (vr 158), dE P "check_rights" 416 (vr 165), dE P "check_ep" 423 (vr 172), dE P "check_position" 430 (vr 179), dE P "STEP_FILES" 444 (vr 180), dE P "STEP_RANKS" 456 (vr 181), dE P "Geometry" 501 (vr 198), dE P "is_growing" 508 (vr 209), dE P "add_masks" 519 (vr 216), dE P "inner_squares" 528 (vr 223), dE P "add_rays" 542 (vr 230), dE P "add_pawns" 550 (vr 237), dE P "add_knights" 567 (vr 244), dE P "add_castles" 580 (vr 251), dE P "make_geometry" 591 (vr 258), dE P "Zobrist" 628 (vr 275), dE P "_law_forms" 637 (vr 283), dE P "_law_known" 651 (vr 284), dE P "_law_lot" 660 (vr 291), dE P "_law_men" 676 (vr 298), dE P "_law_bent" 686 (vr 305), dE P "_law_lies" 692 (vr 310), dE P "_law_wing" 704 (vr 317), dE P "_law_rights" 718 (vr 324), dE P "_law_is_passed" 724 (vr 329), dE P "_law_blamed" 730 (vr 334), dE P "law" 751 (vr 341)] 56 }
noncomputable def u11 (_ : Params) : Obj := tO #[]
noncomputable def u12vpre (_ : Params) : Obj := { cls := vN, data := Data.fields #[] }
noncomputable def u12v5 (_ : Params) : Obj := { cls := vN, data := Data.fields #[vi 2 0, vi 0 0, vr 20, vi 4 0, vi 0 0, vr 27, vi 17 0, vi 0 0, vr 34, vi 20 0, vi 0 0, vr 41] }
noncomputable def u12v17 (_ : Params) : Obj := { cls := vN, data := Data.fields #[vi 2 0, vi 0 0, vr 20, vi 4 0, vi 0 0, vr 27, vi 17 0, vi 0 0, vr 34, vi 20 0, vi 0 0, vr 41, vi 25 0, vi 0 0, vr 61, vi 37 0, vi 0 0, vr 80, vi 39 0, vi 0 0, vr 87, vi 41 0, vi 0 0, vr 94] }
noncomputable def u12v27 (_ : Params) : Obj := { cls := vN, data := Data.fields #[vi 2 0, vi 0 0, vr 20, vi 4 0, vi 0 0, vr 27, vi 17 0, vi 0 0, vr 34, vi 20 0, vi 0 0, vr 41, vi 25 0, vi 0 0, vr 61, vi 37 0, vi 0 0, vr 80, vi 39 0, vi 0 0, vr 87, vi 41 0, vi 0 0, vr 94, vi 44 0, vi 0 0, vr 101, vi 59 0, vi 0 0, vr 122, vi 61 0, vi 0 0, vr 129, vi 75 0, vi 0 0, vr 136, vi 77 0, vi 0 0, vr 143, vi 98 0, vi 0 0, vr 150, vi 105 0, vi 0 0, vr 157, vi 110 0, vi 0 0, vr 164, vi 123 0, vi 0 0, vr 171, vi 130 0, vi 0 0, vr 178] }
noncomputable def u12v31 (_ : Params) : Obj := { cls := vN, data := Data.fields #[vi 2 0, vi 0 0, vr 20, vi 4 0, vi 0 0, vr 27, vi 17 0, vi 0 0, vr 34, vi 20 0, vi 0 0, vr 41, vi 25 0, vi 0 0, vr 61, vi 37 0, vi 0 0, vr 80, vi 39 0, vi 0 0, vr 87, vi 41 0, vi 0 0, vr 94, vi 44 0, vi 0 0, vr 101, vi 59 0, vi 0 0, vr 122, vi 61 0, vi 0 0, vr 129, vi 75 0, vi 0 0, vr 136, vi 77 0, vi 0 0, vr 143, vi 98 0, vi 0 0, vr 150, vi 105 0, vi 0 0, vr 157, vi 110 0, vi 0 0, vr 164, vi 123 0, vi 0 0, vr 171, vi 130 0, vi 0 0, vr 178, vi 143 0, vi 0 0, vr 187] }
noncomputable def u12v40 (_ : Params) : Obj := { cls := vN, data := Data.fields #[vi 2 0, vi 0 0, vr 20, vi 4 0, vi 0 0, vr 27, vi 17 0, vi 0 0, vr 34, vi 20 0, vi 0 0, vr 41, vi 25 0, vi 0 0, vr 61, vi 37 0, vi 0 0, vr 80, vi 39 0, vi 0 0, vr 87, vi 41 0, vi 0 0, vr 94, vi 44 0, vi 0 0, vr 101, vi 59 0, vi 0 0, vr 122, vi 61 0, vi 0 0, vr 129, vi 75 0, vi 0 0, vr 136, vi 77 0, vi 0 0, vr 143, vi 98 0, vi 0 0, vr 150, vi 105 0, vi 0 0, vr 157, vi 110 0, vi 0 0, vr 164, vi 123 0, vi 0 0, vr 171, vi 130 0, vi 0 0, vr 178, vi 143 0, vi 0 0, vr 187, vi 160 0, vi 0 0, vr 208, vi 162 0, vi 0 0, vr 215, vi 170 0, vi 0 0, vr 222, vi 181 0, vi 0 0, vr 229, vi 196 0, vi 0 0, vr 236, vi 200 0, vi 0 0, vr 243, vi 212 0, vi 0 0, vr 250, vi 229 0, vi 0 0, vr 257] }
noncomputable def u12v45 (_ : Params) : Obj := { cls := vN, data := Data.fields #[vi 2 0, vi 0 0, vr 20, vi 4 0, vi 0 0, vr 27, vi 17 0, vi 0 0, vr 34, vi 20 0, vi 0 0, vr 41, vi 25 0, vi 0 0, vr 61, vi 37 0, vi 0 0, vr 80, vi 39 0, vi 0 0, vr 87, vi 41 0, vi 0 0, vr 94, vi 44 0, vi 0 0, vr 101, vi 59 0, vi 0 0, vr 122, vi 61 0, vi 0 0, vr 129, vi 75 0, vi 0 0, vr 136, vi 77 0, vi 0 0, vr 143, vi 98 0, vi 0 0, vr 150, vi 105 0, vi 0 0, vr 157, vi 110 0, vi 0 0, vr 164, vi 123 0, vi 0 0, vr 171, vi 130 0, vi 0 0, vr 178, vi 143 0, vi 0 0, vr 187, vi 160 0, vi 0 0, vr 208, vi 162 0, vi 0 0, vr 215, vi 170 0, vi 0 0, vr 222, vi 181 0, vi 0 0, vr 229, vi 196 0, vi 0 0, vr 236, vi 200 0, vi 0 0, vr 243, vi 212 0, vi 0 0, vr 250, vi 229 0, vi 0 0, vr 257, vi 240 0, vi 0 0, vr 264, vi 250 0, vi 0 0, vr 290] }
noncomputable def u12 (_ : Params) : Obj := { cls := vN, data := Data.fields #[vi 2 0, vi 0 0, vr 20, vi 4 0, vi 0 0, vr 27, vi 17 0, vi 0 0, vr 34, vi 20 0, vi 0 0, vr 41, vi 25 0, vi 0 0, vr 61, vi 37 0, vi 0 0, vr 80, vi 39 0, vi 0 0, vr 87, vi 41 0, vi 0 0, vr 94, vi 44 0, vi 0 0, vr 101, vi 59 0, vi 0 0, vr 122, vi 61 0, vi 0 0, vr 129, vi 75 0, vi 0 0, vr 136, vi 77 0, vi 0 0, vr 143, vi 98 0, vi 0 0, vr 150, vi 105 0, vi 0 0, vr 157, vi 110 0, vi 0 0, vr 164, vi 123 0, vi 0 0, vr 171, vi 130 0, vi 0 0, vr 178, vi 143 0, vi 0 0, vr 187, vi 160 0, vi 0 0, vr 208, vi 162 0, vi 0 0, vr 215, vi 170 0, vi 0 0, vr 222, vi 181 0, vi 0 0, vr 229, vi 196 0, vi 0 0, vr 236, vi 200 0, vi 0 0, vr 243, vi 212 0, vi 0 0, vr 250, vi 229 0, vi 0 0, vr 257, vi 240 0, vi 0 0, vr 264, vi 250 0, vi 0 0, vr 290, vi 254 0, vi 0 0, vr 297, vi 268 0, vi 0 0, vr 304, vi 290 0, vi 0 0, vr 309, vi 296 0, vi 0 0, vr 316, vi 302 0, vi 0 0, vr 323, vi 314 0, vi 0 0, vr 328, vi 323 0, vi 0 0, vr 333, vi 347 0, vi 0 0, vr 340] }
noncomputable def u13 (_ : Params) : Obj := cO #[vs "<module>" 182, vs "<module>" 183, vs "/claim/cut.py" 184, vi 1 0, vi 0 0, vi 0 0, vi 0 0, vi 0 0, vr 11, Value.bool false, vi 181 0, vr 12, vN, vN, vN, vN, vi 185 0, vi 1 0, vs "/claim/cut.py" 186]
noncomputable def u14 (_ : Params) : Obj := { cls := Value.type "frame", slots := #[some (vr 13), some (vr 3), some (vr 3), none, some (vs "__main__" 164), none, some (vr 0)] }
noncomputable def u15 (_ : Params) : Obj := tO #[]
noncomputable def u16 (_ : Params) : Obj := { cls := vN, data := Data.fields #[] }
noncomputable def u17 (_ : Params) : Obj := tO #[vs "b" 192]
noncomputable def u18 (_ : Params) : Obj := tO #[]
noncomputable def u19 (_ : Params) : Obj := gO "more_than_one" "more_than_one" (stAt 1)
noncomputable def u20 (_ : Params) : Obj := cO #[vs "more_than_one" 189, vs "more_than_one" 190, vs "/claim/cut.py" 191, vi 2 0, vi 1 0, vi 0 0, vi 0 0, vi 3 0, vr 15, Value.bool true, vi 181 0, vr 16, vN, vr 17, vr 18, vr 19, vi 193 0, vi 2 0, vs "/claim/cut.py" 194]
noncomputable def u21 (_ : Params) : Obj := fO "more_than_one" "more_than_one" (stAt 1) "chess.bits" 187 20
noncomputable def u22 (_ : Params) : Obj := tO #[]
noncomputable def u23 (_ : Params) : Obj := { cls := vN, data := Data.fields #[] }
noncomputable def u24 (_ : Params) : Obj := tO #[vs "b" 199, vs "width" 200, vs "square" 201]
noncomputable def u25 (_ : Params) : Obj := tO #[]
noncomputable def u26 (_ : Params) : Obj := gO "highest" "highest" (stAt 2)
noncomputable def u27 (_ : Params) : Obj := cO #[vs "highest" 196, vs "highest" 197, vs "/claim/cut.py" 198, vi 4 0, vi 1 0, vi 0 0, vi 0 0, vi 3 0, vr 22, Value.bool true, vi 181 0, vr 23, vN, vr 24, vr 25, vr 26, vi 202 0, vi 4 0, vs "/claim/cut.py" 203]
noncomputable def u28 (_ : Params) : Obj := fO "highest" "highest" (stAt 2) "chess.bits" 187 27
noncomputable def u29 (_ : Params) : Obj := tO #[]
noncomputable def u30 (_ : Params) : Obj := { cls := vN, data := Data.fields #[] }
noncomputable def u31 (_ : Params) : Obj := tO #[vs "b" 208]
noncomputable def u32 (_ : Params) : Obj := tO #[]
noncomputable def u33 (_ : Params) : Obj := gO "lowest" "lowest" (stAt 3)
noncomputable def u34 (_ : Params) : Obj := cO #[vs "lowest" 205, vs "lowest" 206, vs "/claim/cut.py" 207, vi 17 0, vi 1 0, vi 0 0, vi 0 0, vi 3 0, vr 29, Value.bool true, vi 181 0, vr 30, vN, vr 31, vr 32, vr 33, vi 209 0, vi 17 0, vs "/claim/cut.py" 210]
noncomputable def u35 (_ : Params) : Obj := fO "lowest" "lowest" (stAt 3) "chess.bits" 187 34
noncomputable def u36 (_ : Params) : Obj := tO #[Value.type "Exception"]
noncomputable def u37 (_ : Params) : Obj := { cls := Value.type "builtin_function_or_method", data := Data.fields #[Value.builtin "type.__prepare__", Value.type "type"] }
noncomputable def u38 (P : Params) : Obj := { cls := Value.type "dict", data := Data.dict #[dE P "__module__" 221 (vs "chess.errors" 212), dE P "__qualname__" 223 (vs "ChessError" 222), dE P "__firstlineno__" 225 (vi 20 224), dE P "__init__" 233 (vr 49), dE P "__static_attributes__" 235 (vr 50)] 5 }
noncomputable def u39 (_ : Params) : Obj := tO #[]
noncomputable def u40 (_ : Params) : Obj := { cls := vN, data := Data.fields #[vi 22 0, vi 4 0, vr 48] }
noncomputable def u41 (_ : Params) : Obj := cO #[vs "ChessError" 216, vs "ChessError" 217, vs "/claim/cut.py" 218, vi 20 0, vi 0 0, vi 0 0, vi 0 0, vi 0 0, vr 39, Value.bool false, vi 181 0, vr 40, vN, vN, vN, vN, vi 219 0, vi 20 0, vs "/claim/cut.py" 220]
noncomputable def u42 (_ : Params) : Obj := { cls := Value.type "frame", slots := #[some (vr 41), some (vr 3), some (vr 38), none, some (vs "chess.errors" 212), none, some (vr 0)] }
noncomputable def u43 (_ : Params) : Obj := tO #[]
noncomputable def u44 (_ : Params) : Obj := { cls := vN, data := Data.fields #[] }
noncomputable def u45 (_ : Params) : Obj := tO #[vs "self" 229, vs "text" 230]
noncomputable def u46 (_ : Params) : Obj := tO #[]
noncomputable def u47 (_ : Params) : Obj := gO "__init__" "ChessError.__init__" (inAt 5 0)
noncomputable def u48 (_ : Params) : Obj := cO #[vs "__init__" 226, vs "ChessError.__init__" 227, vs "/claim/cut.py" 228, vi 22 0, vi 2 0, vi 0 0, vi 0 0, vi 3 0, vr 43, Value.bool true, vi 181 0, vr 44, vN, vr 45, vr 46, vr 47, vi 231 0, vi 22 0, vs "/claim/cut.py" 232]
noncomputable def u49 (_ : Params) : Obj := fO "__init__" "ChessError.__init__" (inAt 5 0) "chess.errors" 212 48
noncomputable def u50 (_ : Params) : Obj := tO #[vs "text" 234]
noncomputable def u51 (P : Params) : Obj := { cls := Value.type "dict", data := Data.dict #[dE P "__module__" 221 (vs "chess.errors" 212), dE P "__firstlineno__" 225 (vi 20 224), dE P "__init__" 233 (vr 49), dE P "__static_attributes__" 235 (vr 50), dE P "__weakref__" 237 (vr 53), dE P "__doc__" 238 (vN)] 3 }
noncomputable def u52v5 (_ : Params) : Obj := { cls := Value.type "type", data := Data.cls { name := sO "ChessError", bases := [Value.type "Exception"], mro := [vr 52, Value.type "Exception", Value.type "BaseException", Value.type "object"], ns := 51, qualname := sO "ChessError" }, slots := #[some (vr 36), none, some (vs "ChessError" 214), some (vs "ChessError" 222), some (Value.builtin "Exception.__new__"), some (Value.bool true)] }
noncomputable def u52 (_ : Params) : Obj := { cls := Value.type "type", data := Data.cls { name := sO "ChessError", bases := [Value.type "Exception"], mro := [vr 52, Value.type "Exception", Value.type "BaseException", Value.type "object"], ns := 51, qualname := sO "ChessError", subclasses := [vr 72] }, slots := #[some (vr 36), none, some (vs "ChessError" 214), some (vs "ChessError" 222), some (Value.builtin "Exception.__new__"), some (Value.bool true)] }
noncomputable def u53 (_ : Params) : Obj := { cls := Value.type "getset_descriptor", data := Data.fields #[vs "__weakref__" 236, vr 52, Value.builtin "ExceptionGroup.__weakref__", vN] }
noncomputable def u54 (_ : Params) : Obj := { cls := Value.type "super", data := Data.fields #[vr 52, vr 52, vr 52] }
noncomputable def u55 (_ : Params) : Obj := { cls := Value.type "builtin_function_or_method", data := Data.fields #[Value.builtin "object.__init_subclass__", vr 52] }
noncomputable def u56 (_ : Params) : Obj := tO #[vr 52]
noncomputable def u57 (_ : Params) : Obj := { cls := Value.type "builtin_function_or_method", data := Data.fields #[Value.builtin "type.__prepare__", Value.type "type"] }
noncomputable def u58 (P : Params) : Obj := { cls := Value.type "dict", data := Data.dict #[dE P "__module__" 250 (vs "chess.errors" 212), dE P "__qualname__" 252 (vs "BadPosition" 251), dE P "__firstlineno__" 254 (vi 25 253), dE P "__init__" 263 (vr 69), dE P "__static_attributes__" 265 (vr 70)] 5 }
noncomputable def u59 (_ : Params) : Obj := tO #[]
noncomputable def u60 (_ : Params) : Obj := { cls := vN, data := Data.fields #[vi 27 0, vi 4 0, vr 68] }
noncomputable def u61 (_ : Params) : Obj := cO #[vs "BadPosition" 245, vs "BadPosition" 246, vs "/claim/cut.py" 247, vi 25 0, vi 0 0, vi 0 0, vi 0 0, vi 0 0, vr 59, Value.bool false, vi 181 0, vr 60, vN, vN, vN, vN, vi 248 0, vi 25 0, vs "/claim/cut.py" 249]
noncomputable def u62 (_ : Params) : Obj := { cls := Value.type "frame", slots := #[some (vr 61), some (vr 3), some (vr 58), none, some (vs "chess.errors" 212), none, some (vr 0)] }
noncomputable def u63 (_ : Params) : Obj := tO #[]
noncomputable def u64 (_ : Params) : Obj := { cls := vN, data := Data.fields #[] }
noncomputable def u65 (_ : Params) : Obj := tO #[vs "self" 258, vs "text" 259, vs "square" 260]
noncomputable def u66 (_ : Params) : Obj := tO #[]
noncomputable def u67 (_ : Params) : Obj := gO "__init__" "BadPosition.__init__" (inAt 6 0)
noncomputable def u68 (_ : Params) : Obj := cO #[vs "__init__" 255, vs "BadPosition.__init__" 256, vs "/claim/cut.py" 257, vi 27 0, vi 3 0, vi 0 0, vi 0 0, vi 3 0, vr 63, Value.bool true, vi 181 0, vr 64, vN, vr 65, vr 66, vr 67, vi 261 0, vi 27 0, vs "/claim/cut.py" 262]
noncomputable def u69 (_ : Params) : Obj := fO "__init__" "BadPosition.__init__" (inAt 6 0) "chess.errors" 212 68
noncomputable def u70 (_ : Params) : Obj := tO #[vs "square" 264]
noncomputable def u71 (P : Params) : Obj := { cls := Value.type "dict", data := Data.dict #[dE P "__module__" 250 (vs "chess.errors" 212), dE P "__firstlineno__" 254 (vi 25 253), dE P "__init__" 263 (vr 69), dE P "__static_attributes__" 265 (vr 70), dE P "__doc__" 266 (vN)] 2 }
noncomputable def u72 (_ : Params) : Obj := { cls := Value.type "type", data := Data.cls { name := sO "BadPosition", bases := [vr 52], mro := [vr 72, vr 52, Value.type "Exception", Value.type "BaseException", Value.type "object"], ns := 71, qualname := sO "BadPosition" }, slots := #[some (vr 56), none, some (vs "BadPosition" 243), some (vs "BadPosition" 251), some (Value.builtin "Exception.__new__"), some (Value.bool true)] }
noncomputable def u73 (_ : Params) : Obj := { cls := Value.type "super", data := Data.fields #[vr 72, vr 72, vr 72] }
noncomputable def u74 (_ : Params) : Obj := { cls := Value.type "builtin_function_or_method", data := Data.fields #[Value.builtin "object.__init_subclass__", vr 72] }
noncomputable def u75 (_ : Params) : Obj := tO #[]
noncomputable def u76 (_ : Params) : Obj := { cls := vN, data := Data.fields #[] }
noncomputable def u77 (_ : Params) : Obj := tO #[vs "side" 286, vs "kind" 287]
noncomputable def u78 (_ : Params) : Obj := tO #[]
noncomputable def u79 (_ : Params) : Obj := gO "make_piece" "make_piece" (stAt 14)
noncomputable def u80 (_ : Params) : Obj := cO #[vs "make_piece" 283, vs "make_piece" 284, vs "/claim/cut.py" 285, vi 37 0, vi 2 0, vi 0 0, vi 0 0, vi 3 0, vr 75, Value.bool true, vi 181 0, vr 76, vN, vr 77, vr 78, vr 79, vi 288 0, vi 37 0, vs "/claim/cut.py" 289]
noncomputable def u81 (_ : Params) : Obj := fO "make_piece" "make_piece" (stAt 14) "chess.kinds" 269 80
noncomputable def u82 (_ : Params) : Obj := tO #[]
noncomputable def u83 (_ : Params) : Obj := { cls := vN, data := Data.fields #[] }
noncomputable def u84 (_ : Params) : Obj := tO #[vs "piece" 294]
noncomputable def u85 (_ : Params) : Obj := tO #[]
noncomputable def u86 (_ : Params) : Obj := gO "side_of" "side_of" (stAt 15)
noncomputable def u87 (_ : Params) : Obj := cO #[vs "side_of" 291, vs "side_of" 292, vs "/claim/cut.py" 293, vi 39 0, vi 1 0, vi 0 0, vi 0 0, vi 3 0, vr 82, Value.bool true, vi 181 0, vr 83, vN, vr 84, vr 85, vr 86, vi 295 0, vi 39 0, vs "/claim/cut.py" 296]
noncomputable def u88 (_ : Params) : Obj := fO "side_of" "side_of" (stAt 15) "chess.kinds" 269 87
noncomputable def u89 (_ : Params) : Obj := tO #[]
noncomputable def u90 (_ : Params) : Obj := { cls := vN, data := Data.fields #[] }
noncomputable def u91 (_ : Params) : Obj := tO #[vs "piece" 301]
noncomputable def u92 (_ : Params) : Obj := tO #[]
noncomputable def u93 (_ : Params) : Obj := gO "kind_of" "kind_of" (stAt 16)
noncomputable def u94 (_ : Params) : Obj := cO #[vs "kind_of" 298, vs "kind_of" 299, vs "/claim/cut.py" 300, vi 41 0, vi 1 0, vi 0 0, vi 0 0, vi 3 0, vr 89, Value.bool true, vi 181 0, vr 90, vN, vr 91, vr 92, vr 93, vi 302 0, vi 41 0, vs "/claim/cut.py" 303]
noncomputable def u95 (_ : Params) : Obj := fO "kind_of" "kind_of" (stAt 16) "chess.kinds" 269 94
noncomputable def u96 (_ : Params) : Obj := tO #[]
noncomputable def u97 (_ : Params) : Obj := { cls := Value.type "builtin_function_or_method", data := Data.fields #[Value.builtin "type.__prepare__", Value.type "type"] }
noncomputable def u98 (P : Params) : Obj := { cls := Value.type "dict", data := Data.dict #[dE P "__module__" 314 (vs "chess.position" 305), dE P "__qualname__" 316 (vs "Position" 315), dE P "__firstlineno__" 318 (vi 44 317), dE P "__init__" 327 (vr 109), dE P "__static_attributes__" 340 (vr 110)] 5 }
noncomputable def u99 (_ : Params) : Obj := tO #[]
noncomputable def u100 (_ : Params) : Obj := { cls := vN, data := Data.fields #[vi 46 0, vi 4 0, vr 108] }
noncomputable def u101 (_ : Params) : Obj := cO #[vs "Position" 309, vs "Position" 310, vs "/claim/cut.py" 311, vi 44 0, vi 0 0, vi 0 0, vi 0 0, vi 0 0, vr 99, Value.bool false, vi 181 0, vr 100, vN, vN, vN, vN, vi 312 0, vi 44 0, vs "/claim/cut.py" 313]
noncomputable def u102 (_ : Params) : Obj := { cls := Value.type "frame", slots := #[some (vr 101), some (vr 3), some (vr 98), none, some (vs "chess.position" 305), none, some (vr 0)] }
noncomputable def u103 (_ : Params) : Obj := tO #[]
noncomputable def u104 (_ : Params) : Obj := { cls := vN, data := Data.fields #[] }
noncomputable def u105 (_ : Params) : Obj := tO #[vs "self" 322, vs "geo" 323, vs "zob" 324]
noncomputable def u106 (_ : Params) : Obj := tO #[]
noncomputable def u107 (_ : Params) : Obj := gO "__init__" "Position.__init__" (inAt 18 0)
noncomputable def u108 (_ : Params) : Obj := cO #[vs "__init__" 319, vs "Position.__init__" 320, vs "/claim/cut.py" 321, vi 46 0, vi 3 0, vi 0 0, vi 0 0, vi 3 0, vr 103, Value.bool true, vi 181 0, vr 104, vN, vr 105, vr 106, vr 107, vi 325 0, vi 46 0, vs "/claim/cut.py" 326]
noncomputable def u109 (_ : Params) : Obj := fO "__init__" "Position.__init__" (inAt 18 0) "chess.position" 305 108
noncomputable def u110 (_ : Params) : Obj := tO #[vs "board" 328, vs "ep" 329, vs "full" 330, vs "geo" 331, vs "half" 332, vs "history" 333, vs "key" 334, vs "kinds" 335, vs "rights" 336, vs "side" 337, vs "sides" 338, vs "zob" 339]
noncomputable def u111 (P : Params) : Obj := { cls := Value.type "dict", data := Data.dict #[dE P "__module__" 314 (vs "chess.position" 305), dE P "__firstlineno__" 318 (vi 44 317), dE P "__init__" 327 (vr 109), dE P "__static_attributes__" 340 (vr 110), dE P "__dict__" 342 (vr 113), dE P "__weakref__" 344 (vr 114), dE P "__doc__" 345 (vN)] 4 }
noncomputable def u112 (_ : Params) : Obj := { cls := Value.type "type", data := Data.cls { name := sO "Position", bases := [Value.type "object"], mro := [vr 112, Value.type "object"], ns := 111, qualname := sO "Position" }, slots := #[none, none, some (vs "Position" 307), some (vs "Position" 315), some (Value.builtin "object.__new__"), some (Value.bool true)] }
noncomputable def u113 (_ : Params) : Obj := { cls := Value.type "getset_descriptor", data := Data.fields #[vs "__dict__" 341, vr 112, Value.builtin "function.__dict__", Value.builtin "function.__dict__#set"] }
noncomputable def u114 (_ : Params) : Obj := { cls := Value.type "getset_descriptor", data := Data.fields #[vs "__weakref__" 343, vr 112, Value.builtin "ExceptionGroup.__weakref__", vN] }
noncomputable def u115 (_ : Params) : Obj := { cls := Value.type "super", data := Data.fields #[vr 112, vr 112, vr 112] }
noncomputable def u116 (_ : Params) : Obj := { cls := Value.type "builtin_function_or_method", data := Data.fields #[Value.builtin "object.__init_subclass__", vr 112] }
noncomputable def u117 (_ : Params) : Obj := tO #[]
noncomputable def u118 (_ : Params) : Obj := { cls := vN, data := Data.fields #[] }
noncomputable def u119 (_ : Params) : Obj := tO #[vs "pos" 351, vs "side" 352, vs "kind" 353]
noncomputable def u120 (_ : Params) : Obj := tO #[]
noncomputable def u121 (_ : Params) : Obj := gO "pieces" "pieces" (stAt 19)
noncomputable def u122 (_ : Params) : Obj := cO #[vs "pieces" 348, vs "pieces" 349, vs "/claim/cut.py" 350, vi 59 0, vi 3 0, vi 0 0, vi 0 0, vi 3 0, vr 117, Value.bool true, vi 181 0, vr 118, vN, vr 119, vr 120, vr 121, vi 354 0, vi 59 0, vs "/claim/cut.py" 355]
noncomputable def u123 (_ : Params) : Obj := fO "pieces" "pieces" (stAt 19) "chess.position" 305 122
noncomputable def u124 (_ : Params) : Obj := tO #[]
noncomputable def u125 (_ : Params) : Obj := { cls := vN, data := Data.fields #[] }
noncomputable def u126 (_ : Params) : Obj := tO #[vs "pos" 360, vs "square" 361, vs "geo" 362, vs "rank" 363, vs "ahead" 364]
noncomputable def u127 (_ : Params) : Obj := tO #[]
noncomputable def u128 (_ : Params) : Obj := gO "ep_stands" "ep_stands" (stAt 20)
noncomputable def u129 (_ : Params) : Obj := cO #[vs "ep_stands" 357, vs "ep_stands" 358, vs "/claim/cut.py" 359, vi 61 0, vi 2 0, vi 0 0, vi 0 0, vi 3 0, vr 124, Value.bool true, vi 181 0, vr 125, vN, vr 126, vr 127, vr 128, vi 365 0, vi 61 0, vs "/claim/cut.py" 366]
noncomputable def u130 (_ : Params) : Obj := fO "ep_stands" "ep_stands" (stAt 20) "chess.position" 305 129
noncomputable def u131 (_ : Params) : Obj := tO #[]
noncomputable def u132 (_ : Params) : Obj := { cls := vN, data := Data.fields #[] }
noncomputable def u133 (_ : Params) : Obj := tO #[vs "pos" 371, vs "square" 372]
noncomputable def u134 (_ : Params) : Obj := tO #[]
noncomputable def u135 (_ : Params) : Obj := gO "ep_attacked" "ep_attacked" (stAt 21)
noncomputable def u136 (_ : Params) : Obj := cO #[vs "ep_attacked" 368, vs "ep_attacked" 369, vs "/claim/cut.py" 370, vi 75 0, vi 2 0, vi 0 0, vi 0 0, vi 3 0, vr 131, Value.bool true, vi 181 0, vr 132, vN, vr 133, vr 134, vr 135, vi 373 0, vi 75 0, vs "/claim/cut.py" 374]
noncomputable def u137 (_ : Params) : Obj := fO "ep_attacked" "ep_attacked" (stAt 21) "chess.position" 305 136
noncomputable def u138 (_ : Params) : Obj := tO #[]
noncomputable def u139 (_ : Params) : Obj := { cls := vN, data := Data.fields #[] }
noncomputable def u140 (_ : Params) : Obj := tO #[vs "pos" 379, vs "geo" 380, vs "kinds" 381, vs "sides" 382, vs "square" 383, vs "piece" 384, vs "wrong" 385, vs "kind" 386]
noncomputable def u141 (_ : Params) : Obj := tO #[]
noncomputable def u142 (_ : Params) : Obj := gO "check_boards" "check_boards" (stAt 22)
noncomputable def u143 (_ : Params) : Obj := cO #[vs "check_boards" 376, vs "check_boards" 377, vs "/claim/cut.py" 378, vi 77 0, vi 1 0, vi 0 0, vi 0 0, vi 3 0, vr 138, Value.bool true, vi 181 0, vr 139, vN, vr 140, vr 141, vr 142, vi 387 0, vi 77 0, vs "/claim/cut.py" 388]
noncomputable def u144 (_ : Params) : Obj := fO "check_boards" "check_boards" (stAt 22) "chess.position" 305 143
noncomputable def u145 (_ : Params) : Obj := tO #[]
noncomputable def u146 (_ : Params) : Obj := { cls := vN, data := Data.fields #[] }
noncomputable def u147 (_ : Params) : Obj := tO #[vs "pos" 393, vs "side" 394, vs "kings" 395]
noncomputable def u148 (_ : Params) : Obj := tO #[]
noncomputable def u149 (_ : Params) : Obj := gO "check_kings" "check_kings" (stAt 23)
noncomputable def u150 (_ : Params) : Obj := cO #[vs "check_kings" 390, vs "check_kings" 391, vs "/claim/cut.py" 392, vi 98 0, vi 1 0, vi 0 0, vi 0 0, vi 3 0, vr 145, Value.bool true, vi 181 0, vr 146, vN, vr 147, vr 148, vr 149, vi 396 0, vi 98 0, vs "/claim/cut.py" 397]
noncomputable def u151 (_ : Params) : Obj := fO "check_kings" "check_kings" (stAt 23) "chess.position" 305 150
noncomputable def u152 (_ : Params) : Obj := tO #[]
noncomputable def u153 (_ : Params) : Obj := { cls := vN, data := Data.fields #[] }
noncomputable def u154 (_ : Params) : Obj := tO #[vs "pos" 402, vs "geo" 403, vs "wrong" 404]
noncomputable def u155 (_ : Params) : Obj := tO #[]
noncomputable def u156 (_ : Params) : Obj := gO "check_pawns" "check_pawns" (stAt 24)
noncomputable def u157 (_ : Params) : Obj := cO #[vs "check_pawns" 399, vs "check_pawns" 400, vs "/claim/cut.py" 401, vi 105 0, vi 1 0, vi 0 0, vi 0 0, vi 3 0, vr 152, Value.bool true, vi 181 0, vr 153, vN, vr 154, vr 155, vr 156, vi 405 0, vi 105 0, vs "/claim/cut.py" 406]
noncomputable def u158 (_ : Params) : Obj := fO "check_pawns" "check_pawns" (stAt 24) "chess.position" 305 157
noncomputable def u159 (_ : Params) : Obj := tO #[]
noncomputable def u160 (_ : Params) : Obj := { cls := vN, data := Data.fields #[] }
noncomputable def u161 (_ : Params) : Obj := tO #[vs "pos" 411, vs "index" 412, vs "wing" 413]
noncomputable def u162 (_ : Params) : Obj := tO #[]
noncomputable def u163 (_ : Params) : Obj := gO "check_rights" "check_rights" (stAt 25)
noncomputable def u164 (_ : Params) : Obj := cO #[vs "check_rights" 408, vs "check_rights" 409, vs "/claim/cut.py" 410, vi 110 0, vi 1 0, vi 0 0, vi 0 0, vi 3 0, vr 159, Value.bool true, vi 181 0, vr 160, vN, vr 161, vr 162, vr 163, vi 414 0, vi 110 0, vs "/claim/cut.py" 415]
noncomputable def u165 (_ : Params) : Obj := fO "check_rights" "check_rights" (stAt 25) "chess.position" 305 164
noncomputable def u166 (_ : Params) : Obj := tO #[]
noncomputable def u167 (_ : Params) : Obj := { cls := vN, data := Data.fields #[] }
noncomputable def u168 (_ : Params) : Obj := tO #[vs "pos" 420]
noncomputable def u169 (_ : Params) : Obj := tO #[]
noncomputable def u170 (_ : Params) : Obj := gO "check_ep" "check_ep" (stAt 26)
noncomputable def u171 (_ : Params) : Obj := cO #[vs "check_ep" 417, vs "check_ep" 418, vs "/claim/cut.py" 419, vi 123 0, vi 1 0, vi 0 0, vi 0 0, vi 3 0, vr 166, Value.bool true, vi 181 0, vr 167, vN, vr 168, vr 169, vr 170, vi 421 0, vi 123 0, vs "/claim/cut.py" 422]
noncomputable def u172 (_ : Params) : Obj := fO "check_ep" "check_ep" (stAt 26) "chess.position" 305 171
noncomputable def u173 (_ : Params) : Obj := tO #[]
noncomputable def u174 (_ : Params) : Obj := { cls := vN, data := Data.fields #[] }
noncomputable def u175 (_ : Params) : Obj := tO #[vs "pos" 427]
noncomputable def u176 (_ : Params) : Obj := tO #[]
noncomputable def u177 (_ : Params) : Obj := gO "check_position" "check_position" (stAt 27)
noncomputable def u178 (_ : Params) : Obj := cO #[vs "check_position" 424, vs "check_position" 425, vs "/claim/cut.py" 426, vi 130 0, vi 1 0, vi 0 0, vi 0 0, vi 3 0, vr 173, Value.bool true, vi 181 0, vr 174, vN, vr 175, vr 176, vr 177, vi 428 0, vi 130 0, vs "/claim/cut.py" 429]
noncomputable def u179 (_ : Params) : Obj := fO "check_position" "check_position" (stAt 27) "chess.position" 305 178
noncomputable def u180 (_ : Params) : Obj := tO #[vi 0 433, vi 1 434, vi 0 435, vi (-1) 437, vi 1 438, vi 1 439, vi (-1) 441, vi (-1) 443]
noncomputable def u181 (_ : Params) : Obj := tO #[vi 1 445, vi 0 446, vi (-1) 448, vi 0 449, vi 1 450, vi (-1) 452, vi (-1) 454, vi 1 455]
noncomputable def u182 (_ : Params) : Obj := tO #[]
noncomputable def u183 (_ : Params) : Obj := { cls := Value.type "builtin_function_or_method", data := Data.fields #[Value.builtin "type.__prepare__", Value.type "type"] }
noncomputable def u184 (P : Params) : Obj := { cls := Value.type "dict", data := Data.dict #[dE P "__module__" 464 (vs "chess.geometry" 431), dE P "__qualname__" 466 (vs "Geometry" 465), dE P "__firstlineno__" 468 (vi 143 467), dE P "__init__" 479 (vr 195), dE P "__static_attributes__" 494 (vr 196)] 5 }
noncomputable def u185 (_ : Params) : Obj := tO #[]
noncomputable def u186 (_ : Params) : Obj := { cls := vN, data := Data.fields #[vi 145 0, vi 4 0, vr 194] }
noncomputable def u187 (_ : Params) : Obj := cO #[vs "Geometry" 459, vs "Geometry" 460, vs "/claim/cut.py" 461, vi 143 0, vi 0 0, vi 0 0, vi 0 0, vi 0 0, vr 185, Value.bool false, vi 181 0, vr 186, vN, vN, vN, vN, vi 462 0, vi 143 0, vs "/claim/cut.py" 463]
noncomputable def u188 (_ : Params) : Obj := { cls := Value.type "frame", slots := #[some (vr 187), some (vr 3), some (vr 184), none, some (vs "chess.geometry" 431), none, some (vr 0)] }
noncomputable def u189 (_ : Params) : Obj := tO #[]
noncomputable def u190 (_ : Params) : Obj := { cls := vN, data := Data.fields #[] }
noncomputable def u191 (_ : Params) : Obj := tO #[vs "self" 472, vs "files" 473, vs "ranks" 474, vs "has_double" 475, vs "has_castling" 476]
noncomputable def u192 (_ : Params) : Obj := tO #[]
noncomputable def u193 (_ : Params) : Obj := gO "__init__" "Geometry.__init__" (inAt 31 0)
noncomputable def u194 (_ : Params) : Obj := cO #[vs "__init__" 469, vs "Geometry.__init__" 470, vs "/claim/cut.py" 471, vi 145 0, vi 5 0, vi 0 0, vi 0 0, vi 3 0, vr 189, Value.bool true, vi 181 0, vr 190, vN, vr 191, vr 192, vr 193, vi 477 0, vi 145 0, vs "/claim/cut.py" 478]
noncomputable def u195 (_ : Params) : Obj := fO "__init__" "Geometry.__init__" (inAt 31 0) "chess.geometry" 431 194
noncomputable def u196 (_ : Params) : Obj := tO #[vs "castles" 480, vs "file_masks" 481, vs "files" 482, vs "full" 483, vs "has_castling" 484, vs "has_double" 485, vs "king" 486, vs "knight" 487, vs "pawn" 488, vs "rank_masks" 489, vs "ranks" 490, vs "rays" 491, vs "rights_lost" 492, vs "size" 493]
noncomputable def u197 (P : Params) : Obj := { cls := Value.type "dict", data := Data.dict #[dE P "__module__" 464 (vs "chess.geometry" 431), dE P "__firstlineno__" 468 (vi 143 467), dE P "__init__" 479 (vr 195), dE P "__static_attributes__" 494 (vr 196), dE P "__dict__" 496 (vr 199), dE P "__weakref__" 498 (vr 200), dE P "__doc__" 499 (vN)] 4 }
noncomputable def u198 (_ : Params) : Obj := { cls := Value.type "type", data := Data.cls { name := sO "Geometry", bases := [Value.type "object"], mro := [vr 198, Value.type "object"], ns := 197, qualname := sO "Geometry" }, slots := #[none, none, some (vs "Geometry" 457), some (vs "Geometry" 465), some (Value.builtin "object.__new__"), some (Value.bool true)] }
noncomputable def u199 (_ : Params) : Obj := { cls := Value.type "getset_descriptor", data := Data.fields #[vs "__dict__" 495, vr 198, Value.builtin "function.__dict__", Value.builtin "function.__dict__#set"] }
noncomputable def u200 (_ : Params) : Obj := { cls := Value.type "getset_descriptor", data := Data.fields #[vs "__weakref__" 497, vr 198, Value.builtin "ExceptionGroup.__weakref__", vN] }
noncomputable def u201 (_ : Params) : Obj := { cls := Value.type "super", data := Data.fields #[vr 198, vr 198, vr 198] }
noncomputable def u202 (_ : Params) : Obj := { cls := Value.type "builtin_function_or_method", data := Data.fields #[Value.builtin "object.__init_subclass__", vr 198] }
noncomputable def u203 (_ : Params) : Obj := tO #[]
noncomputable def u204 (_ : Params) : Obj := { cls := vN, data := Data.fields #[] }
noncomputable def u205 (_ : Params) : Obj := tO #[vs "d" 505]
noncomputable def u206 (_ : Params) : Obj := tO #[]
noncomputable def u207 (_ : Params) : Obj := gO "is_growing" "is_growing" (stAt 32)
noncomputable def u208 (_ : Params) : Obj := cO #[vs "is_growing" 502, vs "is_growing" 503, vs "/claim/cut.py" 504, vi 160 0, vi 1 0, vi 0 0, vi 0 0, vi 3 0, vr 203, Value.bool true, vi 181 0, vr 204, vN, vr 205, vr 206, vr 207, vi 506 0, vi 160 0, vs "/claim/cut.py" 507]
noncomputable def u209 (_ : Params) : Obj := fO "is_growing" "is_growing" (stAt 32) "chess.geometry" 431 208
noncomputable def u210 (_ : Params) : Obj := tO #[]
noncomputable def u211 (_ : Params) : Obj := { cls := vN, data := Data.fields #[] }
noncomputable def u212 (_ : Params) : Obj := tO #[vs "geo" 512, vs "row" 513, vs "column" 514, vs "r" 515, vs "f" 516]
noncomputable def u213 (_ : Params) : Obj := tO #[]
noncomputable def u214 (_ : Params) : Obj := gO "add_masks" "add_masks" (stAt 33)
noncomputable def u215 (_ : Params) : Obj := cO #[vs "add_masks" 509, vs "add_masks" 510, vs "/claim/cut.py" 511, vi 162 0, vi 1 0, vi 0 0, vi 0 0, vi 3 0, vr 210, Value.bool true, vi 181 0, vr 211, vN, vr 212, vr 213, vr 214, vi 517 0, vi 162 0, vs "/claim/cut.py" 518]
noncomputable def u216 (_ : Params) : Obj := fO "add_masks" "add_masks" (stAt 33) "chess.geometry" 431 215
noncomputable def u217 (_ : Params) : Obj := tO #[]
noncomputable def u218 (_ : Params) : Obj := { cls := vN, data := Data.fields #[] }
noncomputable def u219 (_ : Params) : Obj := tO #[vs "geo" 523, vs "d" 524, vs "edge" 525]
noncomputable def u220 (_ : Params) : Obj := tO #[]
noncomputable def u221 (_ : Params) : Obj := gO "inner_squares" "inner_squares" (stAt 34)
noncomputable def u222 (_ : Params) : Obj := cO #[vs "inner_squares" 520, vs "inner_squares" 521, vs "/claim/cut.py" 522, vi 170 0, vi 2 0, vi 0 0, vi 0 0, vi 3 0, vr 217, Value.bool true, vi 181 0, vr 218, vN, vr 219, vr 220, vr 221, vi 526 0, vi 170 0, vs "/claim/cut.py" 527]
noncomputable def u223 (_ : Params) : Obj := fO "inner_squares" "inner_squares" (stAt 34) "chess.geometry" 431 222
noncomputable def u224 (_ : Params) : Obj := tO #[]
noncomputable def u225 (_ : Params) : Obj := { cls := vN, data := Data.fields #[] }
noncomputable def u226 (_ : Params) : Obj := tO #[vs "geo" 532, vs "d" 533, vs "inner" 534, vs "delta" 535, vs "ray" 536, vs "order" 537, vs "square" 538, vs "goal" 539]
noncomputable def u227 (_ : Params) : Obj := tO #[]
noncomputable def u228 (_ : Params) : Obj := gO "add_rays" "add_rays" (stAt 35)
noncomputable def u229 (_ : Params) : Obj := cO #[vs "add_rays" 529, vs "add_rays" 530, vs "/claim/cut.py" 531, vi 181 0, vi 1 0, vi 0 0, vi 0 0, vi 3 0, vr 224, Value.bool true, vi 181 0, vr 225, vN, vr 226, vr 227, vr 228, vi 540 0, vi 181 0, vs "/claim/cut.py" 541]
noncomputable def u230 (_ : Params) : Obj := fO "add_rays" "add_rays" (stAt 35) "chess.geometry" 431 229
noncomputable def u231 (_ : Params) : Obj := tO #[]
noncomputable def u232 (_ : Params) : Obj := { cls := vN, data := Data.fields #[] }
noncomputable def u233 (_ : Params) : Obj := tO #[vs "geo" 546, vs "square" 547]
noncomputable def u234 (_ : Params) : Obj := tO #[]
noncomputable def u235 (_ : Params) : Obj := gO "add_pawns" "add_pawns" (stAt 36)
noncomputable def u236 (_ : Params) : Obj := cO #[vs "add_pawns" 543, vs "add_pawns" 544, vs "/claim/cut.py" 545, vi 196 0, vi 1 0, vi 0 0, vi 0 0, vi 3 0, vr 231, Value.bool true, vi 181 0, vr 232, vN, vr 233, vr 234, vr 235, vi 548 0, vi 196 0, vs "/claim/cut.py" 549]
noncomputable def u237 (_ : Params) : Obj := fO "add_pawns" "add_pawns" (stAt 36) "chess.geometry" 431 236
noncomputable def u238 (_ : Params) : Obj := tO #[]
noncomputable def u239 (_ : Params) : Obj := { cls := vN, data := Data.fields #[] }
noncomputable def u240 (_ : Params) : Obj := tO #[vs "geo" 554, vs "files" 555, vs "not_first" 556, vs "not_last" 557, vs "not_first_two" 558, vs "not_last_two" 559, vs "square" 560, vs "b" 561, vs "near" 562, vs "far" 563, vs "found" 564]
noncomputable def u241 (_ : Params) : Obj := tO #[]
noncomputable def u242 (_ : Params) : Obj := gO "add_knights" "add_knights" (stAt 37)
noncomputable def u243 (_ : Params) : Obj := cO #[vs "add_knights" 551, vs "add_knights" 552, vs "/claim/cut.py" 553, vi 200 0, vi 1 0, vi 0 0, vi 0 0, vi 3 0, vr 238, Value.bool true, vi 181 0, vr 239, vN, vr 240, vr 241, vr 242, vi 565 0, vi 200 0, vs "/claim/cut.py" 566]
noncomputable def u244 (_ : Params) : Obj := fO "add_knights" "add_knights" (stAt 37) "chess.geometry" 431 243
noncomputable def u245 (_ : Params) : Obj := tO #[]
noncomputable def u246 (_ : Params) : Obj := { cls := vN, data := Data.fields #[] }
noncomputable def u247 (_ : Params) : Obj := tO #[vs "geo" 571, vs "start" 572, vs "index" 573, vs "base" 574, vs "corner" 575, vs "way" 576, vs "goal" 577]
noncomputable def u248 (_ : Params) : Obj := tO #[]
noncomputable def u249 (_ : Params) : Obj := gO "add_castles" "add_castles" (stAt 38)
noncomputable def u250 (_ : Params) : Obj := cO #[vs "add_castles" 568, vs "add_castles" 569, vs "/claim/cut.py" 570, vi 212 0, vi 1 0, vi 0 0, vi 0 0, vi 3 0, vr 245, Value.bool true, vi 181 0, vr 246, vN, vr 247, vr 248, vr 249, vi 578 0, vi 212 0, vs "/claim/cut.py" 579]
noncomputable def u251 (_ : Params) : Obj := fO "add_castles" "add_castles" (stAt 38) "chess.geometry" 431 250
noncomputable def u252 (_ : Params) : Obj := tO #[]
noncomputable def u253 (_ : Params) : Obj := { cls := vN, data := Data.fields #[] }
noncomputable def u254 (_ : Params) : Obj := tO #[vs "files" 584, vs "ranks" 585, vs "has_double" 586, vs "has_castling" 587, vs "geo" 588]
noncomputable def u255 (_ : Params) : Obj := tO #[]
noncomputable def u256 (_ : Params) : Obj := gO "make_geometry" "make_geometry" (stAt 39)
noncomputable def u257 (_ : Params) : Obj := cO #[vs "make_geometry" 581, vs "make_geometry" 582, vs "/claim/cut.py" 583, vi 229 0, vi 4 0, vi 0 0, vi 0 0, vi 3 0, vr 252, Value.bool true, vi 181 0, vr 253, vN, vr 254, vr 255, vr 256, vi 589 0, vi 229 0, vs "/claim/cut.py" 590]
noncomputable def u258 (_ : Params) : Obj := fO "make_geometry" "make_geometry" (stAt 39) "chess.geometry" 431 257
noncomputable def u259 (_ : Params) : Obj := tO #[]
noncomputable def u260 (_ : Params) : Obj := { cls := Value.type "builtin_function_or_method", data := Data.fields #[Value.builtin "type.__prepare__", Value.type "type"] }
noncomputable def u261 (P : Params) : Obj := { cls := Value.type "dict", data := Data.dict #[dE P "__module__" 601 (vs "chess.zobrist" 592), dE P "__qualname__" 603 (vs "Zobrist" 602), dE P "__firstlineno__" 605 (vi 240 604), dE P "__init__" 616 (vr 272), dE P "__static_attributes__" 621 (vr 273)] 5 }
noncomputable def u262 (_ : Params) : Obj := tO #[]
noncomputable def u263 (_ : Params) : Obj := { cls := vN, data := Data.fields #[vi 242 0, vi 4 0, vr 271] }
noncomputable def u264 (_ : Params) : Obj := cO #[vs "Zobrist" 596, vs "Zobrist" 597, vs "/claim/cut.py" 598, vi 240 0, vi 0 0, vi 0 0, vi 0 0, vi 0 0, vr 262, Value.bool false, vi 181 0, vr 263, vN, vN, vN, vN, vi 599 0, vi 240 0, vs "/claim/cut.py" 600]
noncomputable def u265 (_ : Params) : Obj := { cls := Value.type "frame", slots := #[some (vr 264), some (vr 3), some (vr 261), none, some (vs "chess.zobrist" 592), none, some (vr 0)] }
noncomputable def u266 (_ : Params) : Obj := tO #[]
noncomputable def u267 (_ : Params) : Obj := { cls := vN, data := Data.fields #[] }
noncomputable def u268 (_ : Params) : Obj := tO #[vs "self" 609, vs "pieces" 610, vs "ep" 611, vs "rights" 612, vs "side" 613]
noncomputable def u269 (_ : Params) : Obj := tO #[]
noncomputable def u270 (_ : Params) : Obj := gO "__init__" "Zobrist.__init__" (inAt 41 0)
noncomputable def u271 (_ : Params) : Obj := cO #[vs "__init__" 606, vs "Zobrist.__init__" 607, vs "/claim/cut.py" 608, vi 242 0, vi 5 0, vi 0 0, vi 0 0, vi 3 0, vr 266, Value.bool true, vi 181 0, vr 267, vN, vr 268, vr 269, vr 270, vi 614 0, vi 242 0, vs "/claim/cut.py" 615]
noncomputable def u272 (_ : Params) : Obj := fO "__init__" "Zobrist.__init__" (inAt 41 0) "chess.zobrist" 592 271
noncomputable def u273 (_ : Params) : Obj := tO #[vs "ep" 617, vs "pieces" 618, vs "rights" 619, vs "side" 620]
noncomputable def u274 (P : Params) : Obj := { cls := Value.type "dict", data := Data.dict #[dE P "__module__" 601 (vs "chess.zobrist" 592), dE P "__firstlineno__" 605 (vi 240 604), dE P "__init__" 616 (vr 272), dE P "__static_attributes__" 621 (vr 273), dE P "__dict__" 623 (vr 276), dE P "__weakref__" 625 (vr 277), dE P "__doc__" 626 (vN)] 4 }
noncomputable def u275 (_ : Params) : Obj := { cls := Value.type "type", data := Data.cls { name := sO "Zobrist", bases := [Value.type "object"], mro := [vr 275, Value.type "object"], ns := 274, qualname := sO "Zobrist" }, slots := #[none, none, some (vs "Zobrist" 594), some (vs "Zobrist" 602), some (Value.builtin "object.__new__"), some (Value.bool true)] }
noncomputable def u276 (_ : Params) : Obj := { cls := Value.type "getset_descriptor", data := Data.fields #[vs "__dict__" 622, vr 275, Value.builtin "function.__dict__", Value.builtin "function.__dict__#set"] }
noncomputable def u277 (_ : Params) : Obj := { cls := Value.type "getset_descriptor", data := Data.fields #[vs "__weakref__" 624, vr 275, Value.builtin "ExceptionGroup.__weakref__", vN] }
noncomputable def u278 (_ : Params) : Obj := { cls := Value.type "super", data := Data.fields #[vr 275, vr 275, vr 275] }
noncomputable def u279 (_ : Params) : Obj := { cls := Value.type "builtin_function_or_method", data := Data.fields #[Value.builtin "object.__init_subclass__", vr 275] }
noncomputable def u280 (_ : Params) : Obj := tO #[vi 4 631, vi 5 632, Value.bool true, Value.bool false]
noncomputable def u281 (_ : Params) : Obj := tO #[vi 7 633, vi 3 634, Value.bool false, Value.bool true]
noncomputable def u282 (_ : Params) : Obj := tO #[vi 6 635, vi 3 636, Value.bool false, Value.bool true]
noncomputable def u283 (_ : Params) : Obj := tO #[vr 280, vr 281, vr 282]
noncomputable def u284 (_ : Params) : Obj := tO #[vi 0 638, vi 1 639, vi 2 640, vi 3 641, vi 4 642, vi 5 643, vi 6 644, vi 9 645, vi 10 646, vi 11 647, vi 12 648, vi 13 649, vi 14 650]
noncomputable def u285 (_ : Params) : Obj := tO #[]
noncomputable def u286 (_ : Params) : Obj := { cls := vN, data := Data.fields #[] }
noncomputable def u287 (_ : Params) : Obj := tO #[vs "lots" 655, vs "sides" 656, vs "cells" 657]
noncomputable def u288 (_ : Params) : Obj := tO #[]
noncomputable def u289 (_ : Params) : Obj := gO "_law_lot" "_law_lot" (stAt 45)
noncomputable def u290 (_ : Params) : Obj := cO #[vs "_law_lot" 652, vs "_law_lot" 653, vs "/claim/cut.py" 654, vi 250 0, vi 2 0, vi 0 0, vi 0 0, vi 3 0, vr 285, Value.bool true, vi 181 0, vr 286, vN, vr 287, vr 288, vr 289, vi 658 0, vi 250 0, vs "/claim/cut.py" 659]
noncomputable def u291 (_ : Params) : Obj := fO "_law_lot" "_law_lot" (stAt 45) "law_pf0098_01" 629 290
noncomputable def u292 (_ : Params) : Obj := tO #[]
noncomputable def u293 (_ : Params) : Obj := { cls := vN, data := Data.fields #[] }
noncomputable def u294 (_ : Params) : Obj := tO #[vs "lots" 664, vs "files" 665, vs "ranks" 666, vs "who" 667, vs "size" 668, vs "men" 669, vs "corner" 670, vs "row" 671, vs "turn" 672, vs "spot" 673]
noncomputable def u295 (_ : Params) : Obj := tO #[]
noncomputable def u296 (_ : Params) : Obj := gO "_law_men" "_law_men" (stAt 46)
noncomputable def u297 (_ : Params) : Obj := cO #[vs "_law_men" 661, vs "_law_men" 662, vs "/claim/cut.py" 663, vi 254 0, vi 4 0, vi 0 0, vi 0 0, vi 3 0, vr 292, Value.bool true, vi 181 0, vr 293, vN, vr 294, vr 295, vr 296, vi 674 0, vi 254 0, vs "/claim/cut.py" 675]
noncomputable def u298 (_ : Params) : Obj := fO "_law_men" "_law_men" (stAt 46) "law_pf0098_01" 629 297
noncomputable def u299 (_ : Params) : Obj := tO #[]
noncomputable def u300 (_ : Params) : Obj := { cls := vN, data := Data.fields #[] }
noncomputable def u301 (_ : Params) : Obj := tO #[vs "lots" 680, vs "pos" 681, vs "size" 682, vs "way" 683]
noncomputable def u302 (_ : Params) : Obj := tO #[]
noncomputable def u303 (_ : Params) : Obj := gO "_law_bent" "_law_bent" (stAt 47)
noncomputable def u304 (_ : Params) : Obj := cO #[vs "_law_bent" 677, vs "_law_bent" 678, vs "/claim/cut.py" 679, vi 268 0, vi 3 0, vi 0 0, vi 0 0, vi 3 0, vr 299, Value.bool true, vi 181 0, vr 300, vN, vr 301, vr 302, vr 303, vi 684 0, vi 268 0, vs "/claim/cut.py" 685]
noncomputable def u305 (_ : Params) : Obj := fO "_law_bent" "_law_bent" (stAt 47) "law_pf0098_01" 629 304
noncomputable def u306 (_ : Params) : Obj := tO #[]
noncomputable def u307 (_ : Params) : Obj := { cls := vN, data := Data.fields #[] }
noncomputable def u308 (_ : Params) : Obj := gO "_law_lies" "_law_lies" (stAt 48)
noncomputable def u309 (_ : Params) : Obj := cO #[vs "_law_lies" 687, vs "_law_lies" 688, vs "/claim/cut.py" 689, vi 290 0, vi 2 0, vi 0 0, vi 0 0, vi 3 0, vr 306, Value.bool true, vi 181 0, vr 307, vN, vN, vN, vr 308, vi 690 0, vi 290 0, vs "/claim/cut.py" 691]
noncomputable def u310 (_ : Params) : Obj := fO "_law_lies" "_law_lies" (stAt 48) "law_pf0098_01" 629 309
noncomputable def u311 (_ : Params) : Obj := tO #[]
noncomputable def u312 (_ : Params) : Obj := { cls := vN, data := Data.fields #[] }
noncomputable def u313 (_ : Params) : Obj := tO #[vs "files" 696, vs "size" 697, vs "index" 698, vs "home" 699, vs "corner" 700, vs "first" 701]
noncomputable def u314 (_ : Params) : Obj := tO #[]
noncomputable def u315 (_ : Params) : Obj := gO "_law_wing" "_law_wing" (stAt 49)
noncomputable def u316 (_ : Params) : Obj := cO #[vs "_law_wing" 693, vs "_law_wing" 694, vs "/claim/cut.py" 695, vi 296 0, vi 3 0, vi 0 0, vi 0 0, vi 3 0, vr 311, Value.bool true, vi 181 0, vr 312, vN, vr 313, vr 314, vr 315, vi 702 0, vi 296 0, vs "/claim/cut.py" 703]
noncomputable def u317 (_ : Params) : Obj := fO "_law_wing" "_law_wing" (stAt 49) "law_pf0098_01" 629 316
noncomputable def u318 (_ : Params) : Obj := tO #[]
noncomputable def u319 (_ : Params) : Obj := { cls := vN, data := Data.fields #[] }
noncomputable def u320 (_ : Params) : Obj := tO #[vs "pos" 708, vs "files" 709, vs "size" 710, vs "has_wings" 711, vs "index" 712, vs "wing" 713, vs "spot" 714, vs "man" 715]
noncomputable def u321 (_ : Params) : Obj := tO #[]
noncomputable def u322 (_ : Params) : Obj := gO "_law_rights" "_law_rights" (stAt 50)
noncomputable def u323 (_ : Params) : Obj := cO #[vs "_law_rights" 705, vs "_law_rights" 706, vs "/claim/cut.py" 707, vi 302 0, vi 4 0, vi 0 0, vi 0 0, vi 3 0, vr 318, Value.bool true, vi 181 0, vr 319, vN, vr 320, vr 321, vr 322, vi 716 0, vi 302 0, vs "/claim/cut.py" 717]
noncomputable def u324 (_ : Params) : Obj := fO "_law_rights" "_law_rights" (stAt 50) "law_pf0098_01" 629 323
noncomputable def u325 (_ : Params) : Obj := tO #[]
noncomputable def u326 (_ : Params) : Obj := { cls := vN, data := Data.fields #[] }
noncomputable def u327 (_ : Params) : Obj := gO "_law_is_passed" "_law_is_passed" (stAt 51)
noncomputable def u328 (_ : Params) : Obj := cO #[vs "_law_is_passed" 719, vs "_law_is_passed" 720, vs "/claim/cut.py" 721, vi 314 0, vi 4 0, vi 0 0, vi 0 0, vi 3 0, vr 325, Value.bool true, vi 181 0, vr 326, vN, vN, vN, vr 327, vi 722 0, vi 314 0, vs "/claim/cut.py" 723]
noncomputable def u329 (_ : Params) : Obj := fO "_law_is_passed" "_law_is_passed" (stAt 51) "law_pf0098_01" 629 328
noncomputable def u330 (_ : Params) : Obj := tO #[]
noncomputable def u331 (_ : Params) : Obj := { cls := vN, data := Data.fields #[] }
noncomputable def u332 (_ : Params) : Obj := gO "_law_blamed" "_law_blamed" (stAt 52)
noncomputable def u333 (_ : Params) : Obj := cO #[vs "_law_blamed" 725, vs "_law_blamed" 726, vs "/claim/cut.py" 727, vi 323 0, vi 5 0, vi 0 0, vi 0 0, vi 3 0, vr 330, Value.bool true, vi 181 0, vr 331, vN, vN, vN, vr 332, vi 728 0, vi 323 0, vs "/claim/cut.py" 729]
noncomputable def u334 (_ : Params) : Obj := fO "_law_blamed" "_law_blamed" (stAt 52) "law_pf0098_01" 629 333
noncomputable def u335 (_ : Params) : Obj := tO #[]
noncomputable def u336 (_ : Params) : Obj := { cls := vN, data := Data.fields #[] }
noncomputable def u337 (_ : Params) : Obj := tO #[vs "script" 734, vs "lots" 735, vs "files" 736, vs "ranks" 737, vs "has_double" 738, vs "has_wings" 739, vs "who" 740, vs "size" 741, vs "zob" 742, vs "pos" 743, vs "men" 744, vs "spot" 745, vs "turn" 746, vs "due" 747, vs "fault" 748]
noncomputable def u338 (_ : Params) : Obj := tO #[]
noncomputable def u339 (_ : Params) : Obj := gO "law" "law" (stAt 53)
noncomputable def u340 (_ : Params) : Obj := cO #[vs "law" 731, vs "law" 732, vs "/claim/cut.py" 733, vi 347 0, vi 1 0, vi 0 0, vi 0 0, vi 3 0, vr 335, Value.bool true, vi 181 0, vr 336, vN, vr 337, vr 338, vr 339, vi 749 0, vi 347 0, vs "/claim/cut.py" 750]
noncomputable def u341 (_ : Params) : Obj := fO "law" "law" (stAt 53) "law_pf0098_01" 629 340
noncomputable def hd.view_39 : Program := view PySem.Challenge.rw_pf0098_01.prog [1, 2, 3, 5, 6, 8, 9, 10, 11, 12, 13, 14, 15, 16, 18, 19, 20, 21, 22, 23, 24, 25, 26, 27, 29, 30, 31, 32, 33, 34, 35, 36, 37, 38, 39, 41, 43, 44, 45, 46, 47, 48, 49, 50, 51, 52, 53]
noncomputable def hd.heap_39 : Params → Frag := fun P =>
(nat_lit 2, u2 P) ::
(nat_lit 3, u3 P) ::
(nat_lit 15, u15 P) ::
(nat_lit 17, u17 P) ::
(nat_lit 18, u18 P) ::
(nat_lit 20, u20 P) ::
(nat_lit 21, u21 P) ::
(nat_lit 22, u22 P) ::
(nat_lit 24, u24 P) ::
(nat_lit 25, u25 P) ::
(nat_lit 27, u27 P) ::
(nat_lit 28, u28 P) ::
(nat_lit 29, u29 P) ::
(nat_lit 31, u31 P) ::
(nat_lit 32, u32 P) ::
(nat_lit 34, u34 P) ::
(nat_lit 35, u35 P) ::
(nat_lit 36, u36 P) ::
(nat_lit 43, u43 P) ::
(nat_lit 45, u45 P) ::
(nat_lit 46, u46 P) ::
(nat_lit 48, u48 P) ::
(nat_lit 49, u49 P) ::
(nat_lit 50, u50 P) ::
(nat_lit 51, u51 P) ::
(nat_lit 52, u52 P) ::
(nat_lit 53, u53 P) ::
(nat_lit 56, u56 P) ::
(nat_lit 63, u63 P) ::
(nat_lit 65, u65 P) ::
(nat_lit 66, u66 P) ::
(nat_lit 68, u68 P) ::
(nat_lit 69, u69 P) ::
(nat_lit 70, u70 P) ::
(nat_lit 71, u71 P) ::
(nat_lit 72, u72 P) ::
(nat_lit 75, u75 P) ::
(nat_lit 77, u77 P) ::
(nat_lit 78, u78 P) ::
(nat_lit 80, u80 P) ::
(nat_lit 81, u81 P) ::
(nat_lit 82, u82 P) ::
(nat_lit 84, u84 P) ::
(nat_lit 85, u85 P) ::
(nat_lit 87, u87 P) ::
(nat_lit 88, u88 P) ::
(nat_lit 89, u89 P) ::
(nat_lit 91, u91 P) ::
(nat_lit 92, u92 P) ::
(nat_lit 94, u94 P) ::
(nat_lit 95, u95 P) ::
(nat_lit 103, u103 P) ::
(nat_lit 105, u105 P) ::
(nat_lit 106, u106 P) ::
(nat_lit 108, u108 P) ::
(nat_lit 109, u109 P) ::
(nat_lit 110, u110 P) ::
(nat_lit 111, u111 P) ::
(nat_lit 112, u112 P) ::
(nat_lit 113, u113 P) ::
(nat_lit 114, u114 P) ::
(nat_lit 117, u117 P) ::
(nat_lit 119, u119 P) ::
(nat_lit 120, u120 P) ::
(nat_lit 122, u122 P) ::
(nat_lit 123, u123 P) ::
(nat_lit 124, u124 P) ::
(nat_lit 126, u126 P) ::
(nat_lit 127, u127 P) ::
(nat_lit 129, u129 P) ::
(nat_lit 130, u130 P) ::
(nat_lit 131, u131 P) ::
(nat_lit 133, u133 P) ::
(nat_lit 134, u134 P) ::
(nat_lit 136, u136 P) ::
(nat_lit 137, u137 P) ::
(nat_lit 138, u138 P) ::
(nat_lit 140, u140 P) ::
(nat_lit 141, u141 P) ::
(nat_lit 143, u143 P) ::
(nat_lit 144, u144 P) ::
(nat_lit 145, u145 P) ::
(nat_lit 147, u147 P) ::
(nat_lit 148, u148 P) ::
(nat_lit 150, u150 P) ::
(nat_lit 151, u151 P) ::
(nat_lit 152, u152 P) ::
(nat_lit 154, u154 P) ::
(nat_lit 155, u155 P) ::
(nat_lit 157, u157 P) ::
(nat_lit 158, u158 P) ::
(nat_lit 159, u159 P) ::
(nat_lit 161, u161 P) ::
(nat_lit 162, u162 P) ::
(nat_lit 164, u164 P) ::
(nat_lit 165, u165 P) ::
(nat_lit 166, u166 P) ::
(nat_lit 168, u168 P) ::
(nat_lit 169, u169 P) ::
(nat_lit 171, u171 P) ::
(nat_lit 172, u172 P) ::
(nat_lit 173, u173 P) ::
(nat_lit 175, u175 P) ::
(nat_lit 176, u176 P) ::
(nat_lit 178, u178 P) ::
(nat_lit 179, u179 P) ::
(nat_lit 180, u180 P) ::
(nat_lit 181, u181 P) ::
(nat_lit 189, u189 P) ::
(nat_lit 191, u191 P) ::
(nat_lit 192, u192 P) ::
(nat_lit 194, u194 P) ::
(nat_lit 195, u195 P) ::
(nat_lit 196, u196 P) ::
(nat_lit 197, u197 P) ::
(nat_lit 198, u198 P) ::
(nat_lit 199, u199 P) ::
(nat_lit 200, u200 P) ::
(nat_lit 203, u203 P) ::
(nat_lit 205, u205 P) ::
(nat_lit 206, u206 P) ::
(nat_lit 208, u208 P) ::
(nat_lit 209, u209 P) ::
(nat_lit 210, u210 P) ::
(nat_lit 212, u212 P) ::
(nat_lit 213, u213 P) ::
(nat_lit 215, u215 P) ::
(nat_lit 216, u216 P) ::
(nat_lit 217, u217 P) ::
(nat_lit 219, u219 P) ::
(nat_lit 220, u220 P) ::
(nat_lit 222, u222 P) ::
(nat_lit 223, u223 P) ::
(nat_lit 224, u224 P) ::
(nat_lit 226, u226 P) ::
(nat_lit 227, u227 P) ::
(nat_lit 229, u229 P) ::
(nat_lit 230, u230 P) ::
(nat_lit 231, u231 P) ::
(nat_lit 233, u233 P) ::
(nat_lit 234, u234 P) ::
(nat_lit 236, u236 P) ::
(nat_lit 237, u237 P) ::
(nat_lit 238, u238 P) ::
(nat_lit 240, u240 P) ::
(nat_lit 241, u241 P) ::
(nat_lit 243, u243 P) ::
(nat_lit 244, u244 P) ::
(nat_lit 245, u245 P) ::
(nat_lit 247, u247 P) ::
(nat_lit 248, u248 P) ::
(nat_lit 250, u250 P) ::
(nat_lit 251, u251 P) ::
(nat_lit 252, u252 P) ::
(nat_lit 254, u254 P) ::
(nat_lit 255, u255 P) ::
(nat_lit 257, u257 P) ::
(nat_lit 258, u258 P) ::
(nat_lit 266, u266 P) ::
(nat_lit 268, u268 P) ::
(nat_lit 269, u269 P) ::
(nat_lit 271, u271 P) ::
(nat_lit 272, u272 P) ::
(nat_lit 273, u273 P) ::
(nat_lit 274, u274 P) ::
(nat_lit 275, u275 P) ::
(nat_lit 276, u276 P) ::
(nat_lit 277, u277 P) ::
(nat_lit 280, u280 P) ::
(nat_lit 281, u281 P) ::
(nat_lit 282, u282 P) ::
(nat_lit 283, u283 P) ::
(nat_lit 284, u284 P) ::
(nat_lit 285, u285 P) ::
(nat_lit 287, u287 P) ::
(nat_lit 288, u288 P) ::
(nat_lit 290, u290 P) ::
(nat_lit 291, u291 P) ::
(nat_lit 292, u292 P) ::
(nat_lit 294, u294 P) ::
(nat_lit 295, u295 P) ::
(nat_lit 297, u297 P) ::
(nat_lit 298, u298 P) ::
(nat_lit 299, u299 P) ::
(nat_lit 301, u301 P) ::
(nat_lit 302, u302 P) ::
(nat_lit 304, u304 P) ::
(nat_lit 305, u305 P) ::
(nat_lit 306, u306 P) ::
(nat_lit 309, u309 P) ::
(nat_lit 310, u310 P) ::
(nat_lit 311, u311 P) ::
(nat_lit 313, u313 P) ::
(nat_lit 314, u314 P) ::
(nat_lit 316, u316 P) ::
(nat_lit 317, u317 P) ::
(nat_lit 318, u318 P) ::
(nat_lit 320, u320 P) ::
(nat_lit 321, u321 P) ::
(nat_lit 323, u323 P) ::
(nat_lit 324, u324 P) ::
(nat_lit 325, u325 P) ::
(nat_lit 328, u328 P) ::
(nat_lit 329, u329 P) ::
(nat_lit 330, u330 P) ::
(nat_lit 333, u333 P) ::
(nat_lit 334, u334 P) ::
(nat_lit 335, u335 P) ::
(nat_lit 337, u337 P) ::
(nat_lit 338, u338 P) ::
(nat_lit 340, u340 P) ::
(nat_lit 341, u341 P) ::
[]
noncomputable abbrev hd.hook : Hook := kHook hd.heap_39 [2, 3, 15, 17, 18, 20, 21, 22, 24, 25, 27, 28, 29, 31, 32, 34, 35, 36, 43, 45, 46, 48, 49, 50, 51, 52, 53, 56, 63, 65, 66, 68, 69, 70, 71, 72, 75, 77, 78, 80, 81, 82, 84, 85, 87, 88, 89, 91, 92, 94, 95, 103, 105, 106, 108, 109, 110, 111, 112, 113, 114, 117, 119, 120, 122, 123, 124, 126, 127, 129, 130, 131, 133, 134, 136, 137, 138, 140, 141, 143, 144, 145, 147, 148, 150, 151, 152, 154, 155, 157, 158, 159, 161, 162, 164, 165, 166, 168, 169, 171, 172, 173, 175, 176, 178, 179, 180, 181, 189, 191, 192, 194, 195, 196, 197, 198, 199, 200, 203, 205, 206, 208, 209, 210, 212, 213, 215, 216, 217, 219, 220, 222, 223, 224, 226, 227, 229, 230, 231, 233, 234, 236, 237, 238, 240, 241, 243, 244, 245, 247, 248, 250, 251, 252, 254, 255, 257, 258, 266, 268, 269, 271, 272, 273, 274, 275, 276, 277, 280, 281, 282, 283, 284, 285, 287, 288, 290, 291, 292, 294, 295, 297, 298, 299, 301, 302, 304, 305, 306, 309, 310, 311, 313, 314, 316, 317, 318, 320, 321, 323, 324, 325, 328, 329, 330, 333, 334, 335, 337, 338, 340, 341] (fun _ => by kernel_rfl)
noncomputable def hppre (P : Params) : Heap := { objs := ⟨boot_o_0 P :: boot_o_1 P :: boot_o_2 P :: boot_o_3 P :: boot_o_4 P :: boot_o_5 P :: boot_o_6 P :: boot_o_7 P :: boot_o_8 P :: boot_o_9 P :: boot_o_10 P :: u11 P :: u12vpre P :: u13 P :: u14 P :: []⟩ }
noncomputable def hp5 (P : Params) : Heap := { objs := ⟨boot_o_0 P :: boot_o_1 P :: u2 P :: u3v5 P :: boot_o_4 P :: boot_o_5 P :: boot_o_6 P :: boot_o_7 P :: boot_o_8 P :: boot_o_9 P :: boot_o_10 P :: u11 P :: u12v5 P :: u13 P :: u14 P :: u15 P :: u16 P :: u17 P :: u18 P :: u19 P :: u20 P :: u21 P :: u22 P :: u23 P :: u24 P :: u25 P :: u26 P :: u27 P :: u28 P :: u29 P :: u30 P :: u31 P :: u32 P :: u33 P :: u34 P :: u35 P :: u36 P :: u37 P :: u38 P :: u39 P :: u40 P :: u41 P :: u42 P :: u43 P :: u44 P :: u45 P :: u46 P :: u47 P :: u48 P :: u49 P :: u50 P :: u51 P :: u52v5 P :: u53 P :: u54 P :: u55 P :: []⟩ }
noncomputable def hp17 (P : Params) : Heap := { objs := ⟨boot_o_0 P :: boot_o_1 P :: u2 P :: u3v17 P :: boot_o_4 P :: boot_o_5 P :: boot_o_6 P :: boot_o_7 P :: boot_o_8 P :: boot_o_9 P :: boot_o_10 P :: u11 P :: u12v17 P :: u13 P :: u14 P :: u15 P :: u16 P :: u17 P :: u18 P :: u19 P :: u20 P :: u21 P :: u22 P :: u23 P :: u24 P :: u25 P :: u26 P :: u27 P :: u28 P :: u29 P :: u30 P :: u31 P :: u32 P :: u33 P :: u34 P :: u35 P :: u36 P :: u37 P :: u38 P :: u39 P :: u40 P :: u41 P :: u42 P :: u43 P :: u44 P :: u45 P :: u46 P :: u47 P :: u48 P :: u49 P :: u50 P :: u51 P :: u52 P :: u53 P :: u54 P :: u55 P :: u56 P :: u57 P :: u58 P :: u59 P :: u60 P :: u61 P :: u62 P :: u63 P :: u64 P :: u65 P :: u66 P :: u67 P :: u68 P :: u69 P :: u70 P :: u71 P :: u72 P :: u73 P :: u74 P :: u75 P :: u76 P :: u77 P :: u78 P :: u79 P :: u80 P :: u81 P :: u82 P :: u83 P :: u84 P :: u85 P :: u86 P :: u87 P :: u88 P :: u89 P :: u90 P :: u91 P :: u92 P :: u93 P :: u94 P :: u95 P :: []⟩ }
noncomputable def hp27 (P : Params) : Heap := { objs := ⟨boot_o_0 P :: boot_o_1 P :: u2 P :: u3v27 P :: boot_o_4 P :: boot_o_5 P :: boot_o_6 P :: boot_o_7 P :: boot_o_8 P :: boot_o_9 P :: boot_o_10 P :: u11 P :: u12v27 P :: u13 P :: u14 P :: u15 P :: u16 P :: u17 P :: u18 P :: u19 P :: u20 P :: u21 P :: u22 P :: u23 P :: u24 P :: u25 P :: u26 P :: u27 P :: u28 P :: u29 P :: u30 P :: u31 P :: u32 P :: u33 P :: u34 P :: u35 P :: u36 P :: u37 P :: u38 P :: u39 P :: u40 P :: u41 P :: u42 P :: u43 P :: u44 P :: u45 P :: u46 P :: u47 P :: u48 P :: u49 P :: u50 P :: u51 P :: u52 P :: u53 P :: u54 P :: u55 P :: u56 P :: u57 P :: u58 P :: u59 P :: u60 P :: u61 P :: u62 P :: u63 P :: u64 P :: u65 P :: u66 P :: u67 P :: u68 P :: u69 P :: u70 P :: u71 P :: u72 P :: u73 P :: u74 P :: u75 P :: u76 P :: u77 P :: u78 P :: u79 P :: u80 P :: u81 P :: u82 P :: u83 P :: u84 P :: u85 P :: u86 P :: u87 P :: u88 P :: u89 P :: u90 P :: u91 P :: u92 P :: u93 P :: u94 P :: u95 P :: u96 P :: u97 P :: u98 P :: u99 P :: u100 P :: u101 P :: u102 P :: u103 P :: u104 P :: u105 P :: u106 P :: u107 P :: u108 P :: u109 P :: u110 P :: u111 P :: u112 P :: u113 P :: u114 P :: u115 P :: u116 P :: u117 P :: u118 P :: u119 P :: u120 P :: u121 P :: u122 P :: u123 P :: u124 P :: u125 P :: u126 P :: u127 P :: u128 P :: u129 P :: u130 P :: u131 P :: u132 P :: u133 P :: u134 P :: u135 P :: u136 P :: u137 P :: u138 P :: u139 P :: u140 P :: u141 P :: u142 P :: u143 P :: u144 P :: u145 P :: u146 P :: u147 P :: u148 P :: u149 P :: u150 P :: u151 P :: u152 P :: u153 P :: u154 P :: u155 P :: u156 P :: u157 P :: u158 P :: u159 P :: u160 P :: u161 P :: u162 P :: u163 P :: u164 P :: u165 P :: u166 P :: u167 P :: u168 P :: u169 P :: u170 P :: u171 P :: u172 P :: u173 P :: u174 P :: u175 P :: u176 P :: u177 P :: u178 P :: u179 P :: []⟩ }
noncomputable def hp31 (P : Params) : Heap := { objs := ⟨boot_o_0 P :: boot_o_1 P :: u2 P :: u3v31 P :: boot_o_4 P :: boot_o_5 P :: boot_o_6 P :: boot_o_7 P :: boot_o_8 P :: boot_o_9 P :: boot_o_10 P :: u11 P :: u12v31 P :: u13 P :: u14 P :: u15 P :: u16 P :: u17 P :: u18 P :: u19 P :: u20 P :: u21 P :: u22 P :: u23 P :: u24 P :: u25 P :: u26 P :: u27 P :: u28 P :: u29 P :: u30 P :: u31 P :: u32 P :: u33 P :: u34 P :: u35 P :: u36 P :: u37 P :: u38 P :: u39 P :: u40 P :: u41 P :: u42 P :: u43 P :: u44 P :: u45 P :: u46 P :: u47 P :: u48 P :: u49 P :: u50 P :: u51 P :: u52 P :: u53 P :: u54 P :: u55 P :: u56 P :: u57 P :: u58 P :: u59 P :: u60 P :: u61 P :: u62 P :: u63 P :: u64 P :: u65 P :: u66 P :: u67 P :: u68 P :: u69 P :: u70 P :: u71 P :: u72 P :: u73 P :: u74 P :: u75 P :: u76 P :: u77 P :: u78 P :: u79 P :: u80 P :: u81 P :: u82 P :: u83 P :: u84 P :: u85 P :: u86 P :: u87 P :: u88 P :: u89 P :: u90 P :: u91 P :: u92 P :: u93 P :: u94 P :: u95 P :: u96 P :: u97 P :: u98 P :: u99 P :: u100 P :: u101 P :: u102 P :: u103 P :: u104 P :: u105 P :: u106 P :: u107 P :: u108 P :: u109 P :: u110 P :: u111 P :: u112 P :: u113 P :: u114 P :: u115 P :: u116 P :: u117 P :: u118 P :: u119 P :: u120 P :: u121 P :: u122 P :: u123 P :: u124 P :: u125 P :: u126 P :: u127 P :: u128 P :: u129 P :: u130 P :: u131 P :: u132 P :: u133 P :: u134 P :: u135 P :: u136 P :: u137 P :: u138 P :: u139 P :: u140 P :: u141 P :: u142 P :: u143 P :: u144 P :: u145 P :: u146 P :: u147 P :: u148 P :: u149 P :: u150 P :: u151 P :: u152 P :: u153 P :: u154 P :: u155 P :: u156 P :: u157 P :: u158 P :: u159 P :: u160 P :: u161 P :: u162 P :: u163 P :: u164 P :: u165 P :: u166 P :: u167 P :: u168 P :: u169 P :: u170 P :: u171 P :: u172 P :: u173 P :: u174 P :: u175 P :: u176 P :: u177 P :: u178 P :: u179 P :: u180 P :: u181 P :: u182 P :: u183 P :: u184 P :: u185 P :: u186 P :: u187 P :: u188 P :: u189 P :: u190 P :: u191 P :: u192 P :: u193 P :: u194 P :: u195 P :: u196 P :: u197 P :: u198 P :: u199 P :: u200 P :: u201 P :: u202 P :: []⟩ }
noncomputable def hp40 (P : Params) : Heap := { objs := ⟨boot_o_0 P :: boot_o_1 P :: u2 P :: u3v40 P :: boot_o_4 P :: boot_o_5 P :: boot_o_6 P :: boot_o_7 P :: boot_o_8 P :: boot_o_9 P :: boot_o_10 P :: u11 P :: u12v40 P :: u13 P :: u14 P :: u15 P :: u16 P :: u17 P :: u18 P :: u19 P :: u20 P :: u21 P :: u22 P :: u23 P :: u24 P :: u25 P :: u26 P :: u27 P :: u28 P :: u29 P :: u30 P :: u31 P :: u32 P :: u33 P :: u34 P :: u35 P :: u36 P :: u37 P :: u38 P :: u39 P :: u40 P :: u41 P :: u42 P :: u43 P :: u44 P :: u45 P :: u46 P :: u47 P :: u48 P :: u49 P :: u50 P :: u51 P :: u52 P :: u53 P :: u54 P :: u55 P :: u56 P :: u57 P :: u58 P :: u59 P :: u60 P :: u61 P :: u62 P :: u63 P :: u64 P :: u65 P :: u66 P :: u67 P :: u68 P :: u69 P :: u70 P :: u71 P :: u72 P :: u73 P :: u74 P :: u75 P :: u76 P :: u77 P :: u78 P :: u79 P :: u80 P :: u81 P :: u82 P :: u83 P :: u84 P :: u85 P :: u86 P :: u87 P :: u88 P :: u89 P :: u90 P :: u91 P :: u92 P :: u93 P :: u94 P :: u95 P :: u96 P :: u97 P :: u98 P :: u99 P :: u100 P :: u101 P :: u102 P :: u103 P :: u104 P :: u105 P :: u106 P :: u107 P :: u108 P :: u109 P :: u110 P :: u111 P :: u112 P :: u113 P :: u114 P :: u115 P :: u116 P :: u117 P :: u118 P :: u119 P :: u120 P :: u121 P :: u122 P :: u123 P :: u124 P :: u125 P :: u126 P :: u127 P :: u128 P :: u129 P :: u130 P :: u131 P :: u132 P :: u133 P :: u134 P :: u135 P :: u136 P :: u137 P :: u138 P :: u139 P :: u140 P :: u141 P :: u142 P :: u143 P :: u144 P :: u145 P :: u146 P :: u147 P :: u148 P :: u149 P :: u150 P :: u151 P :: u152 P :: u153 P :: u154 P :: u155 P :: u156 P :: u157 P :: u158 P :: u159 P :: u160 P :: u161 P :: u162 P :: u163 P :: u164 P :: u165 P :: u166 P :: u167 P :: u168 P :: u169 P :: u170 P :: u171 P :: u172 P :: u173 P :: u174 P :: u175 P :: u176 P :: u177 P :: u178 P :: u179 P :: u180 P :: u181 P :: u182 P :: u183 P :: u184 P :: u185 P :: u186 P :: u187 P :: u188 P :: u189 P :: u190 P :: u191 P :: u192 P :: u193 P :: u194 P :: u195 P :: u196 P :: u197 P :: u198 P :: u199 P :: u200 P :: u201 P :: u202 P :: u203 P :: u204 P :: u205 P :: u206 P :: u207 P :: u208 P :: u209 P :: u210 P :: u211 P :: u212 P :: u213 P :: u214 P :: u215 P :: u216 P :: u217 P :: u218 P :: u219 P :: u220 P :: u221 P :: u222 P :: u223 P :: u224 P :: u225 P :: u226 P :: u227 P :: u228 P :: u229 P :: u230 P :: u231 P :: u232 P :: u233 P :: u234 P :: u235 P :: u236 P :: u237 P :: u238 P :: u239 P :: u240 P :: u241 P :: u242 P :: u243 P :: u244 P :: u245 P :: u246 P :: u247 P :: u248 P :: u249 P :: u250 P :: u251 P :: u252 P :: u253 P :: u254 P :: u255 P :: u256 P :: u257 P :: u258 P :: []⟩ }
noncomputable def hp45 (P : Params) : Heap := { objs := ⟨boot_o_0 P :: boot_o_1 P :: u2 P :: u3v45 P :: boot_o_4 P :: boot_o_5 P :: boot_o_6 P :: boot_o_7 P :: boot_o_8 P :: boot_o_9 P :: boot_o_10 P :: u11 P :: u12v45 P :: u13 P :: u14 P :: u15 P :: u16 P :: u17 P :: u18 P :: u19 P :: u20 P :: u21 P :: u22 P :: u23 P :: u24 P :: u25 P :: u26 P :: u27 P :: u28 P :: u29 P :: u30 P :: u31 P :: u32 P :: u33 P :: u34 P :: u35 P :: u36 P :: u37 P :: u38 P :: u39 P :: u40 P :: u41 P :: u42 P :: u43 P :: u44 P :: u45 P :: u46 P :: u47 P :: u48 P :: u49 P :: u50 P :: u51 P :: u52 P :: u53 P :: u54 P :: u55 P :: u56 P :: u57 P :: u58 P :: u59 P :: u60 P :: u61 P :: u62 P :: u63 P :: u64 P :: u65 P :: u66 P :: u67 P :: u68 P :: u69 P :: u70 P :: u71 P :: u72 P :: u73 P :: u74 P :: u75 P :: u76 P :: u77 P :: u78 P :: u79 P :: u80 P :: u81 P :: u82 P :: u83 P :: u84 P :: u85 P :: u86 P :: u87 P :: u88 P :: u89 P :: u90 P :: u91 P :: u92 P :: u93 P :: u94 P :: u95 P :: u96 P :: u97 P :: u98 P :: u99 P :: u100 P :: u101 P :: u102 P :: u103 P :: u104 P :: u105 P :: u106 P :: u107 P :: u108 P :: u109 P :: u110 P :: u111 P :: u112 P :: u113 P :: u114 P :: u115 P :: u116 P :: u117 P :: u118 P :: u119 P :: u120 P :: u121 P :: u122 P :: u123 P :: u124 P :: u125 P :: u126 P :: u127 P :: u128 P :: u129 P :: u130 P :: u131 P :: u132 P :: u133 P :: u134 P :: u135 P :: u136 P :: u137 P :: u138 P :: u139 P :: u140 P :: u141 P :: u142 P :: u143 P :: u144 P :: u145 P :: u146 P :: u147 P :: u148 P :: u149 P :: u150 P :: u151 P :: u152 P :: u153 P :: u154 P :: u155 P :: u156 P :: u157 P :: u158 P :: u159 P :: u160 P :: u161 P :: u162 P :: u163 P :: u164 P :: u165 P :: u166 P :: u167 P :: u168 P :: u169 P :: u170 P :: u171 P :: u172 P :: u173 P :: u174 P :: u175 P :: u176 P :: u177 P :: u178 P :: u179 P :: u180 P :: u181 P :: u182 P :: u183 P :: u184 P :: u185 P :: u186 P :: u187 P :: u188 P :: u189 P :: u190 P :: u191 P :: u192 P :: u193 P :: u194 P :: u195 P :: u196 P :: u197 P :: u198 P :: u199 P :: u200 P :: u201 P :: u202 P :: u203 P :: u204 P :: u205 P :: u206 P :: u207 P :: u208 P :: u209 P :: u210 P :: u211 P :: u212 P :: u213 P :: u214 P :: u215 P :: u216 P :: u217 P :: u218 P :: u219 P :: u220 P :: u221 P :: u222 P :: u223 P :: u224 P :: u225 P :: u226 P :: u227 P :: u228 P :: u229 P :: u230 P :: u231 P :: u232 P :: u233 P :: u234 P :: u235 P :: u236 P :: u237 P :: u238 P :: u239 P :: u240 P :: u241 P :: u242 P :: u243 P :: u244 P :: u245 P :: u246 P :: u247 P :: u248 P :: u249 P :: u250 P :: u251 P :: u252 P :: u253 P :: u254 P :: u255 P :: u256 P :: u257 P :: u258 P :: u259 P :: u260 P :: u261 P :: u262 P :: u263 P :: u264 P :: u265 P :: u266 P :: u267 P :: u268 P :: u269 P :: u270 P :: u271 P :: u272 P :: u273 P :: u274 P :: u275 P :: u276 P :: u277 P :: u278 P :: u279 P :: u280 P :: u281 P :: u282 P :: u283 P :: u284 P :: u285 P :: u286 P :: u287 P :: u288 P :: u289 P :: u290 P :: u291 P :: []⟩ }
noncomputable def hp53 (P : Params) : Heap := { objs := ⟨boot_o_0 P :: boot_o_1 P :: u2 P :: u3 P :: boot_o_4 P :: boot_o_5 P :: boot_o_6 P :: boot_o_7 P :: boot_o_8 P :: boot_o_9 P :: boot_o_10 P :: u11 P :: u12 P :: u13 P :: u14 P :: u15 P :: u16 P :: u17 P :: u18 P :: u19 P :: u20 P :: u21 P :: u22 P :: u23 P :: u24 P :: u25 P :: u26 P :: u27 P :: u28 P :: u29 P :: u30 P :: u31 P :: u32 P :: u33 P :: u34 P :: u35 P :: u36 P :: u37 P :: u38 P :: u39 P :: u40 P :: u41 P :: u42 P :: u43 P :: u44 P :: u45 P :: u46 P :: u47 P :: u48 P :: u49 P :: u50 P :: u51 P :: u52 P :: u53 P :: u54 P :: u55 P :: u56 P :: u57 P :: u58 P :: u59 P :: u60 P :: u61 P :: u62 P :: u63 P :: u64 P :: u65 P :: u66 P :: u67 P :: u68 P :: u69 P :: u70 P :: u71 P :: u72 P :: u73 P :: u74 P :: u75 P :: u76 P :: u77 P :: u78 P :: u79 P :: u80 P :: u81 P :: u82 P :: u83 P :: u84 P :: u85 P :: u86 P :: u87 P :: u88 P :: u89 P :: u90 P :: u91 P :: u92 P :: u93 P :: u94 P :: u95 P :: u96 P :: u97 P :: u98 P :: u99 P :: u100 P :: u101 P :: u102 P :: u103 P :: u104 P :: u105 P :: u106 P :: u107 P :: u108 P :: u109 P :: u110 P :: u111 P :: u112 P :: u113 P :: u114 P :: u115 P :: u116 P :: u117 P :: u118 P :: u119 P :: u120 P :: u121 P :: u122 P :: u123 P :: u124 P :: u125 P :: u126 P :: u127 P :: u128 P :: u129 P :: u130 P :: u131 P :: u132 P :: u133 P :: u134 P :: u135 P :: u136 P :: u137 P :: u138 P :: u139 P :: u140 P :: u141 P :: u142 P :: u143 P :: u144 P :: u145 P :: u146 P :: u147 P :: u148 P :: u149 P :: u150 P :: u151 P :: u152 P :: u153 P :: u154 P :: u155 P :: u156 P :: u157 P :: u158 P :: u159 P :: u160 P :: u161 P :: u162 P :: u163 P :: u164 P :: u165 P :: u166 P :: u167 P :: u168 P :: u169 P :: u170 P :: u171 P :: u172 P :: u173 P :: u174 P :: u175 P :: u176 P :: u177 P :: u178 P :: u179 P :: u180 P :: u181 P :: u182 P :: u183 P :: u184 P :: u185 P :: u186 P :: u187 P :: u188 P :: u189 P :: u190 P :: u191 P :: u192 P :: u193 P :: u194 P :: u195 P :: u196 P :: u197 P :: u198 P :: u199 P :: u200 P :: u201 P :: u202 P :: u203 P :: u204 P :: u205 P :: u206 P :: u207 P :: u208 P :: u209 P :: u210 P :: u211 P :: u212 P :: u213 P :: u214 P :: u215 P :: u216 P :: u217 P :: u218 P :: u219 P :: u220 P :: u221 P :: u222 P :: u223 P :: u224 P :: u225 P :: u226 P :: u227 P :: u228 P :: u229 P :: u230 P :: u231 P :: u232 P :: u233 P :: u234 P :: u235 P :: u236 P :: u237 P :: u238 P :: u239 P :: u240 P :: u241 P :: u242 P :: u243 P :: u244 P :: u245 P :: u246 P :: u247 P :: u248 P :: u249 P :: u250 P :: u251 P :: u252 P :: u253 P :: u254 P :: u255 P :: u256 P :: u257 P :: u258 P :: u259 P :: u260 P :: u261 P :: u262 P :: u263 P :: u264 P :: u265 P :: u266 P :: u267 P :: u268 P :: u269 P :: u270 P :: u271 P :: u272 P :: u273 P :: u274 P :: u275 P :: u276 P :: u277 P :: u278 P :: u279 P :: u280 P :: u281 P :: u282 P :: u283 P :: u284 P :: u285 P :: u286 P :: u287 P :: u288 P :: u289 P :: u290 P :: u291 P :: u292 P :: u293 P :: u294 P :: u295 P :: u296 P :: u297 P :: u298 P :: u299 P :: u300 P :: u301 P :: u302 P :: u303 P :: u304 P :: u305 P :: u306 P :: u307 P :: u308 P :: u309 P :: u310 P :: u311 P :: u312 P :: u313 P :: u314 P :: u315 P :: u316 P :: u317 P :: u318 P :: u319 P :: u320 P :: u321 P :: u322 P :: u323 P :: u324 P :: u325 P :: u326 P :: u327 P :: u328 P :: u329 P :: u330 P :: u331 P :: u332 P :: u333 P :: u334 P :: u335 P :: u336 P :: u337 P :: u338 P :: u339 P :: u340 P :: u341 P :: []⟩ }
theorem hpre (w : World) (os : OsState) : topGo treeTable PR w 11 (some (.ref 6)) 12 ⟨boot_heap w.params, Array.mk [], boot_drawn, boot_toks, os⟩ (topStub PR) = some (⟨hppre w.params, ⟨[]⟩, {}, 187, os⟩, ⟨denote treeTable CE, CE, ⟨0, 0, 0, 0⟩, [topFrame PQ]⟩) := by kernel_rfl
theorem hblk (w : World) (os : OsState) : segRun treeTable PR w 11 (some (.ref 6)) 1 1 ⟨hppre w.params, ⟨[]⟩, {}, 187, os⟩ (blockOf BO EN CE ⟨0, 0, 0, 0⟩ [topFrame PQ]) = some (.next, ⟨hppre w.params, ⟨[]⟩, {}, 187, os⟩, CE, ⟨0, 0, 0, 0⟩) := by kernel_rfl
noncomputable def st5 : List Stmt := (BO.drop 0).take 6
theorem hs5 (w : World) (os : OsState) : segRun treeTable PR w 11 (some (.ref 6)) 1 336 ⟨hppre w.params, ⟨[]⟩, {}, 187, os⟩ (piecesOf st5 EN CE ⟨0, 0, 0, 0⟩ [topFrame PQ]) = some (.next, ⟨hp5 w.params, ⟨[]⟩, {}, 243, os⟩, CE, ⟨20, 0, 24, 24⟩) := by kernel_rfl
noncomputable def st17 : List Stmt := (BO.drop 6).take 12
theorem hs17 (w : World) (os : OsState) : segRun treeTable PR w 11 (some (.ref 6)) 1 407 ⟨hp5 w.params, ⟨[]⟩, {}, 243, os⟩ (piecesOf st17 EN CE ⟨20, 0, 24, 24⟩ [topFrame PQ]) = some (.next, ⟨hp17 w.params, ⟨[]⟩, {}, 307, os⟩, CE, ⟨43, 0, 43, 8⟩) := by kernel_rfl
noncomputable def st27 : List Stmt := (BO.drop 18).take 10
theorem hs27 (w : World) (os : OsState) : segRun treeTable PR w 11 (some (.ref 6)) 1 516 ⟨hp17 w.params, ⟨[]⟩, {}, 307, os⟩ (piecesOf st27 EN CE ⟨43, 0, 43, 8⟩ [topFrame PQ]) = some (.next, ⟨hp27 w.params, ⟨[]⟩, {}, 431, os⟩, CE, ⟨130, 0, 139, 17⟩) := by kernel_rfl
noncomputable def st31 : List Stmt := (BO.drop 28).take 4
theorem hs31 (w : World) (os : OsState) : segRun treeTable PR w 11 (some (.ref 6)) 1 314 ⟨hp27 w.params, ⟨[]⟩, {}, 431, os⟩ (piecesOf st31 EN CE ⟨130, 0, 139, 17⟩ [topFrame PQ]) = some (.next, ⟨hp31 w.params, ⟨[]⟩, {}, 502, os⟩, CE, ⟨143, 0, 159, 29⟩) := by kernel_rfl
noncomputable def st40 : List Stmt := (BO.drop 32).take 9
theorem hs40 (w : World) (os : OsState) : segRun treeTable PR w 11 (some (.ref 6)) 1 276 ⟨hp31 w.params, ⟨[]⟩, {}, 502, os⟩ (piecesOf st40 EN CE ⟨143, 0, 159, 29⟩ [topFrame PQ]) = some (.next, ⟨hp40 w.params, ⟨[]⟩, {}, 594, os⟩, CE, ⟨239, 0, 239, 8⟩) := by kernel_rfl
noncomputable def st45 : List Stmt := (BO.drop 41).take 5
theorem hs45 (w : World) (os : OsState) : segRun treeTable PR w 11 (some (.ref 6)) 1 314 ⟨hp40 w.params, ⟨[]⟩, {}, 594, os⟩ (piecesOf st45 EN CE ⟨239, 0, 239, 8⟩ [topFrame PQ]) = some (.next, ⟨hp45 w.params, ⟨[]⟩, {}, 661, os⟩, CE, ⟨250, 0, 253, 79⟩) := by kernel_rfl
noncomputable def st53 : List Stmt := (BO.drop 46).take 8
theorem hs53 (w : World) (os : OsState) : segRun treeTable PR w 11 (some (.ref 6)) 1 262 ⟨hp45 w.params, ⟨[]⟩, {}, 661, os⟩ (piecesOf st53 EN CE ⟨250, 0, 253, 79⟩ [topFrame PQ]) = some (.next, ⟨hp53 w.params, ⟨[]⟩, {}, 752, os⟩, CE, ⟨347, 0, 367, 22⟩) := by kernel_rfl
theorem hfin (w : World) (os : OsState) : topRun treeTable PR w 11 (some (.ref 6)) 2 ⟨hp53 w.params, ⟨[]⟩, {}, 752, os⟩ ⟨doneF .next, CE, ⟨347, 0, 367, 22⟩, [topFrame PQ]⟩ = some ⟨hp53 w.params, ⟨[]⟩, {}, 752, os⟩ := by kernel_rfl
theorem hbody : BO = st5 ++ (st17 ++ (st27 ++ (st31 ++ (st40 ++ (st45 ++ (st53 ++ ([]))))))) := by kernel_rfl
theorem hrun (w : World) (os : OsState) : topRun treeTable PR w 11 (some (.ref 6)) 2440 ⟨boot_heap w.params, Array.mk [], boot_drawn, boot_toks, os⟩ (topStub PR) = some ⟨hp53 w.params, ⟨[]⟩, {}, 752, os⟩ := by
  have r := piece_app (hs5 w os) (piece_app (hs17 w os) (piece_app (hs27 w os) (piece_app (hs31 w os) (piece_app (hs40 w os) (piece_app (hs45 w os) (piece_app (hs53 w os) (piece_nil (hfin w os))))))))
  rw [← hbody] at r
  exact go_top (hpre w os) (piece_block (hblk w os) r)
noncomputable abbrev XT : Shared → Bool := fun s => xlAt hd.view_39 [] s && recOk (RowW.records PySem.Challenge.rw_pf0098_01.row.toRowW) s
theorem hlook1 (w : World) (os : OsState) : (staticsOk (importedModules PR.main.body) (boot_heap w.params) (hp53 w.params) && namesBound PR (hp53 w.params) && gensDone ⟨hp53 w.params, ⟨[]⟩, {}, 752, os⟩ && laidKept (boot_heap w.params) (hp53 w.params)) = true := by kernel_rfl
theorem hlook2 (w : World) (os : OsState) : openSeen hd.view_39 [] (importedModules PR.main.body) XT true ⟨hp53 w.params, ⟨[]⟩, {}, 752, os⟩ = openGood hd.view_39 [] := by kernel_rfl
theorem hlook3 (w : World) (os : OsState) : Hook.obs hd.hook ⟨hp53 w.params, ⟨[]⟩, {}, 752, os⟩ = Hook.val hd.hook w := by kernel_rfl
theorem hopen : opening PR = plainProg PR.main.scope.names := by kernel_rfl
theorem hfence (s : Shared) : fenceModules? PR s = some s := by kernel_rfl
theorem hsize (w : World) : ((boot_heap w.params).isNs mainGlobals && (Array.mk [] : Array GenState).size == 0, (boot_heap w.params).objs.size, (boot_heap w.params).nsMap mainGlobals "__annotations__") = (true, 11, some (.ref 6)) := by kernel_rfl
theorem hd.left : LeftO PR hd.view_39 [] XT (Hook.obs hd.hook) (Hook.val hd.hook) 4962 :=
  LeftO.of_pieces (M := 2440) (boot_open hopen (by decide) hfence) hsize hrun (by decide) (fun w => funext fun os => Prod.ext (hlook1 w os) (Prod.ext (hlook2 w os) (hlook3 w os)))
theorem fill_frag : PySem.Challenge.rw_pf0098_01 = PySem.Challenge.rw_pf0098_01 ∧ hd.heap_39 = hd.heap_39 := by
  k_fill
  exact ⟨rfl, rfl⟩
end Mine
end
/-! part T4 -/
section
open PySem PySem.W PyProof.Rows
set_option maxRecDepth 100000
set_option maxHeartbeats 8000000
namespace Mine
noncomputable abbrev RR : OpenRow := PySem.Challenge.rw_pf0098_01.row
noncomputable abbrev LL : OpenLaw := PySem.Challenge.rw_pf0098_01
theorem sa1 : (sreFenced PR.main && ((moduleNames PR.main.body).isEmpty || lookedIntoSs (moduleNames PR.main.body) PR.main.body)) = true := by kernel_rfl
theorem sa3 : namesResolve PR = true := by kernel_rfl
theorem sa4 : PR.boundNames.all (fun n => !worldNames.contains n) = true := by kernel_rfl
theorem sa5 : noRoadLSs { strict := !(importedModules PR.main.body).all cThrough.contains, foot := none, bare := (["vars", "dir", "locals"] : List Str).filter (readsOut PR PR.main.body) } PR.main.body = true := by kernel_rfl
theorem sa6 : (namesMeet PR PR.main.body fun _ n => attrL n) = true := by kernel_rfl
theorem said_looks : looksOpen PR = true := look_both (look_both (look_both (look_both sa1 sa3) sa4) sa5) sa6
theorem said_part : RR.partSaid = true := by
  unfold OpenRow.partSaid
  repeat' (first | with_reducible exact said_looks | with_reducible refine look_both ?_ ?_ | kernel_rfl)
theorem said_row : RR.wellSaid = true := look_both (look_both said_part (by kernel_rfl)) (by kernel_rfl)
theorem said_law : LL.wellSaid = true := by
  unfold OpenLaw.wellSaid
  repeat' (first | with_reducible exact said_row | with_reducible refine look_both ?_ ?_ | kernel_rfl)
end Mine
end
/-! part D1 -/
section
open PySem PySem.W PyProof.Rows
set_option maxRecDepth 100000
namespace Mine

noncomputable abbrev PG : Program := PySem.Challenge.rw_pf0098_01.row.prog

/-- abstract values: ints without tokens, tuples as plain values, other objects by their number -/
inductive AV where
  | none | bool (b : Bool) | int (i : Int) | ref (i : Nat) | tup (l : List AV) | rng (a b c : Int)
inductive AO where
  | list (l : List AV) | dict (fs : List (Nat × AV)) | inst (C d : Nat) | map (fs : List (Nat × AV))
noncomputable abbrev AH := List AO
noncomputable abbrev AS := List (Nat × AV)

noncomputable def nmL : List String := ["b", "width", "square", "self", "text", "side", "kind", "piece", "geo", "zob", "board", "kinds", "sides", "rights", "ep", "half", "full", "key", "history", "size", "pos", "rank", "ahead", "files", "has_double", "ranks", "pawn", "wrong", "kings", "rank_masks", "index", "wing", "castles", "has_castling", "file_masks", "rays", "king", "knight", "rights_lost", "d", "row", "column", "r", "f", "edge", "inner", "delta", "ray", "order", "goal", "not_first", "not_last", "not_first_two", "not_last_two", "near", "far", "found", "start", "base", "corner", "way", "pieces", "lots", "cells", "who", "men", "turn", "spot", "man", "due", "first", "home", "has_wings", "three", "beside", "enemy", "own", "lengths", "strange", "lying", "pawns", "blamed", "spots", "script", "fault", "gone"]
noncomputable def nm (i : Nat) : Str := Str.ofString (nmL.getD i "")
theorem nm_inj {i j : Nat} (hi : i < 86) (hj : j < 86) (h : nm i = nm j) : i = j := by
  have all : ∀ a : Fin 86, ∀ b : Fin 86, nm a.val = nm b.val → a.val = b.val := by decide +kernel
  exact all ⟨i, hi⟩ ⟨j, hj⟩ h

noncomputable def lk (i : Nat) : AS → Option AV
  | [] => Option.none
  | (j, v) :: r => if i = j then some v else lk i r
noncomputable def put (i : Nat) (v : AV) : AS → AS
  | [] => [(i, v)]
  | (j, w) :: r => if i = j then (j, v) :: r else (j, w) :: put i v r
theorem lk_put (i j : Nat) (v : AV) (σ : AS) : lk j (put i v σ) = if j = i then some v else lk j σ := by
  induction σ with
  | nil => simp [put, lk]
  | cons p r ih =>
    obtain ⟨k, w⟩ := p
    by_cases h : i = k
    · subst h
      by_cases e : j = i
      · simp [put, lk, e]
      · simp [put, lk, e]
    · by_cases e : j = k
      · subst e
        simp [put, lk, h, Ne.symm h]
      · simp only [put, if_neg h, lk, if_neg e, ih]

mutual
noncomputable def AVis (h : Heap) (ρ : List Addr) : AV → Value → Prop
  | .none, v => v = .none
  | .bool b, v => v = .bool b
  | .int i, v => ∃ t, v = .int i t
  | .ref i, v => ∃ a, ρ[i]? = some a ∧ v = .ref a
  | .tup l, v => ∃ a o n ws, v = .ref a ∧ h.get? a = some o ∧ o.cls = .type "tuple" ∧ o.data = .seq ws n ∧ AVall h ρ l ws.toList
  | .rng a b c, v => ∃ r t u w, v = .ref r ∧ IsRange h r a b c t u w
noncomputable def AVall (h : Heap) (ρ : List Addr) : List AV → List Value → Prop
  | [], ws => ws = []
  | a :: l, ws => ∃ w r, ws = w :: r ∧ AVis h ρ a w ∧ AVall h ρ l r
end

/-- the entries of a dict with str keys -/
noncomputable def EntAll (w : World) (h : Heap) (ρ : List Addr) : List (Nat × AV) → List DictEntry → Prop
  | [], es => es = []
  | (i, a) :: l, es => ∃ t v r, es = ⟨PyData.keyHash w.params (nm i), .str (nm i) t, v⟩ :: r ∧ i < 86 ∧ AVis h ρ a v ∧ EntAll w h ρ l r

noncomputable def ObjAt (w : World) (h : Heap) (ρ : List Addr) (a : Addr) : AO → Prop
  | .list l => ∃ ws, h.PlainList a ws ∧ AVall h ρ l ws.toList
  | .dict fs => ∃ es n, h.get? a = some (dictOf es n) ∧ EntAll w h ρ fs es
  | .inst C d => ∃ dx, ρ[d]? = some dx ∧ h.get? a = some (instObj C dx)
  | .map fs => ∃ kvs, h.DictOf (strKind PG w) a kvs ∧ kvs.length ≤ 100 ∧ ∀ i v, lk i fs = some v → i < 86 ∧ ∃ r, valueAt kvs (nm i) = some r ∧ AVis h ρ v r

structure HeapOk (w : World) (base : Heap) (ρ : List Addr) (H : AH) (h : Heap) : Prop where
  len : ρ.length = H.length
  nodup : ρ.Nodup
  fresh : ∀ a ∈ ρ, base.objs.size ≤ a
  stay : base.StaysIn h
  at' : ∀ (i : Nat) (a : Addr) (ao : AO), ρ[i]? = some a → H[i]? = some ao → ObjAt w h ρ a ao

structure Step (ρ : List Addr) (h : Heap) (ρ' : List Addr) (h' : Heap) : Prop where
  pre : ∃ x, ρ' = ρ ++ x
  kept : ∀ b o, h.get? b = some o → b ∉ ρ → h'.get? b = some o
  new : ∀ a ∈ ρ', a ∉ ρ → h.get? a = none

theorem Step.refl (ρ : List Addr) (h : Heap) : Step ρ h ρ h := ⟨⟨[], by simp⟩, fun _ _ e _ => e, fun _ a b => absurd a b⟩
theorem Step.trans {ρ ρ₁ ρ₂ : List Addr} {h h₁ h₂ : Heap} (x : Step ρ h ρ₁ h₁) (y : Step ρ₁ h₁ ρ₂ h₂) : Step ρ h ρ₂ h₂ := by
  refine ⟨?_, fun b o e n => ?_, fun a m n => ?_⟩
  · obtain ⟨p, rfl⟩ := x.pre
    obtain ⟨q, rfl⟩ := y.pre
    exact ⟨p ++ q, by rw [List.append_assoc]⟩
  · refine y.kept b o (x.kept b o e n) fun m => ?_
    have := x.new b m n
    rw [e] at this; cases this
  · by_cases m₁ : a ∈ ρ₁
    · exact x.new a m₁ n
    · cases e : h.get? a with
      | none => rfl
      | some o => have := y.new a m m₁; rw [x.kept a o e n] at this; cases this
theorem Step.keeps {ρ : List Addr} {h h' : Heap} (k : ∀ b o, h.get? b = some o → h'.get? b = some o) : Step ρ h ρ h' := ⟨⟨[], by simp⟩, fun b o e _ => k b o e, fun _ a b => absurd a b⟩

theorem HeapOk.cls {w : World} {base : Heap} {ρ : List Addr} {H : AH} {h : Heap} (x : HeapOk w base ρ H h) {a : Addr} {o : Obj} (m : a ∈ ρ) (e : h.get? a = some o) :
    o.cls = .type "list" ∨ o.cls = .type "dict" ∨ ∃ C, o.cls = .ref C := by
  obtain ⟨i, hi, rfl⟩ := List.getElem_of_mem m
  have hH : i < H.length := x.len ▸ hi
  have := x.at' i ρ[i] H[i] (List.getElem?_eq_getElem hi) (List.getElem?_eq_getElem hH)
  generalize H[i] = ao at this
  cases ao with
  | list l => obtain ⟨ws, ⟨n, q⟩, _⟩ := this; rw [e] at q; cases q; exact .inl rfl
  | dict fs => obtain ⟨ws, n, q, _⟩ := this; rw [e] at q; cases q; exact .inr (.inl rfl)
  | inst C d => obtain ⟨dx, _, q⟩ := this; rw [e] at q; cases q; exact .inr (.inr ⟨_, rfl⟩)
  | map fs => obtain ⟨kvs, ⟨o', es, ep, q, x, _⟩, _⟩ := this; rw [e] at q; cases q; exact .inr (.inl x.1)

theorem pre_get {ρ ρ' : List Addr} (p : ∃ x, ρ' = ρ ++ x) {i : Nat} {a : Addr} (e : ρ[i]? = some a) : ρ'[i]? = some a := by
  obtain ⟨x, rfl⟩ := p
  rw [List.getElem?_append_left (by exact (List.getElem?_eq_some_iff.mp e).1)]
  exact e

section
variable {w : World} {h h' : Heap} {ρ ρ' : List Addr}
/-- what stands by itself: tuples and ranges outside the numbered objects -/
noncomputable def Plain (h h' : Heap) : Prop := ∀ b o, h.get? b = some o → (o.cls = .type "tuple" ∧ ∃ ws n, o.data = .seq ws n) ∨ (o.cls = .type "range" ∧ ∃ vs, o.data = .fields vs) → h'.get? b = some o
theorem IsRange.plain {r : Addr} {a b c : Int} {t u v : Tok} (k : Plain h h') (x : IsRange h r a b c t u v) : IsRange h' r a b c t u v := by
  unfold IsRange at x ⊢
  exact k _ _ x (.inr ⟨rfl, _, rfl⟩)
mutual
theorem AVis.mono (k : Plain h h') (p : ∃ x, ρ' = ρ ++ x) : ∀ {a : AV} {v : Value}, AVis h ρ a v → AVis h' ρ' a v
  | .none, _, x => by unfold AVis at x ⊢; exact x
  | .bool _, _, x => by unfold AVis at x ⊢; exact x
  | .int _, _, x => by unfold AVis at x ⊢; exact x
  | .ref i, _, x => by
    unfold AVis at x ⊢
    obtain ⟨a, e, q⟩ := x
    exact ⟨a, pre_get p e, q⟩
  | .tup l, _, x => by
    unfold AVis at x ⊢
    obtain ⟨a, o, n, ws, q, e, c, d, m⟩ := x
    exact ⟨a, o, n, ws, q, k _ _ e (.inl ⟨c, _, _, d⟩), c, d, AVall.mono k p m⟩
  | .rng a b c, _, x => by
    unfold AVis at x ⊢
    obtain ⟨r, t, u, v, q, e⟩ := x
    exact ⟨r, t, u, v, q, IsRange.plain k e⟩
theorem AVall.mono (k : Plain h h') (p : ∃ x, ρ' = ρ ++ x) : ∀ {l : List AV} {ws : List Value}, AVall h ρ l ws → AVall h' ρ' l ws
  | [], _, x => by unfold AVall at x ⊢; exact x
  | _ :: _, _, x => by
    unfold AVall at x ⊢
    obtain ⟨v, r, q, y, z⟩ := x
    exact ⟨v, r, q, AVis.mono k p y, AVall.mono k p z⟩
end
theorem EntAll.mono (k : Plain h h') (p : ∃ x, ρ' = ρ ++ x) : ∀ {l : List (Nat × AV)} {es : List DictEntry}, EntAll w h ρ l es → EntAll w h' ρ' l es
  | [], _, x => by unfold EntAll at x ⊢; exact x
  | (_, _) :: _, _, x => by
    unfold EntAll at x ⊢
    obtain ⟨t, v, r, q, lt, y, z⟩ := x
    exact ⟨t, v, r, q, lt, AVis.mono k p y, EntAll.mono k p z⟩
theorem ObjAt.mono (k : Plain h h') (p : ∃ x, ρ' = ρ ++ x) {a : Addr} (ka : ∀ o, h.get? a = some o → h'.get? a = some o) : ∀ {ao : AO}, ObjAt w h ρ a ao → ObjAt w h' ρ' a ao
  | .list l, x => by
    obtain ⟨ws, ⟨n, e⟩, m⟩ := x
    exact ⟨ws, ⟨n, ka _ e⟩, AVall.mono k p m⟩
  | .dict l, x => by
    obtain ⟨ws, n, e, m⟩ := x
    exact ⟨ws, n, ka _ e, EntAll.mono k p m⟩
  | .inst C d, x => by
    obtain ⟨dx, e, m⟩ := x
    exact ⟨dx, pre_get p e, ka _ m⟩
  | .map fs, x => by
    obtain ⟨kvs, ⟨o, es, ep, g, r⟩, z, m⟩ := x
    refine ⟨kvs, ⟨o, es, ep, ka _ g, r⟩, z, fun i v e => ?_⟩
    obtain ⟨lt, r, f, av⟩ := m i v e
    exact ⟨lt, r, f, av.mono k p⟩

theorem HeapOk.plain {base : Heap} {H : AH} (x : HeapOk w base ρ H h) (k : ∀ b o, h.get? b = some o → b ∉ ρ → h'.get? b = some o) : Plain h h' := by
  intro b o e c
  refine k b o e fun m => ?_
  rcases x.cls m e with q | q | ⟨C, q⟩ <;> rcases c with ⟨c, _⟩ | ⟨c, _⟩ <;> rw [q] at c <;> simp at c
theorem Step.plain {base : Heap} {H : AH} (x : HeapOk w base ρ H h) (k : Step ρ h ρ' h') : Plain h h' := x.plain k.kept
/-- everything stands: the numbered objects stand too -/
theorem HeapOk.keeps {base : Heap} {H : AH} (x : HeapOk w base ρ H h) (k : ∀ b o, h.get? b = some o → h'.get? b = some o) : HeapOk w base ρ H h' :=
  ⟨x.len, x.nodup, x.fresh, fun b o e => k b o (x.stay b o e), fun i a ao e f => (x.at' i a ao e f).mono (fun b o e _ => k b o e) ⟨[], by simp⟩ fun o e => k a o e⟩
end

section
variable {w : World} {base h h' : Heap} {env : Env} {fs : List Env} {σ : AS} {ρ ρ' : List Addr} {H H' : AH}
noncomputable def VarAt (env : Env) (h : Heap) (m : Str → Option Value) (ρ : List Addr) (i : Nat) (v : AV) : Prop :=
  i < 86 ∧ ∃ r, AVis h ρ v r ∧ ((env.kindOf (nm i) = some .local ∧ m (nm i) = some r) ∨
    ((env.kindOf (nm i) = some .cell ∨ env.kindOf (nm i) = some .free) ∧ ∃ c o, env.cells.lookup (nm i) = some c ∧ h.get? c = some o ∧ o.data = .cell (some r)))
noncomputable def VarsOk (env : Env) (σ : AS) (ρ : List Addr) (h : Heap) : Prop := ∃ m, h.Ns env.locals m ∧ ∀ i v, lk i σ = some v → VarAt env h m ρ i v

/-- the frames of the calls under way -/
structure Fok (base : Heap) (fs : List Env) (ρ : List Addr) (h : Heap) : Prop where
  frs : h.FunFrames base fs
  frF : ∀ e ∈ fs, ∀ L, e.frame = some L → L ∉ ρ
  frB : ∀ e ∈ fs, ∀ L, e.frame = some L → base.objs.size ≤ L
  ne : fs ≠ []

structure Inv (w : World) (base : Heap) (env : Env) (fs : List Env) (σ : AS) (ρ : List Addr) (H : AH) (h : Heap) : Prop where
  hp : HeapOk w base ρ H h
  vars : VarsOk env σ ρ h
  locF : env.locals ∉ ρ
  locB : base.objs.size ≤ env.locals
  cells : ∀ y c, env.cells.lookup y = some c → c ∉ ρ ∧ base.objs.size ≤ c ∧ c ≠ env.locals ∧ ∃ o v, h.get? c = some o ∧ o.data = .cell v
  cinj : ∀ y y' c, env.cells.lookup y = some c → env.cells.lookup y' = some c → y = y'
  fok : Fok base fs ρ h
  envk : env.scope.kind = .function
  envg : env.globals = mainGlobals
  envb : env.builtins = builtinsNs

theorem funFrames_get : ∀ {fs : List Env}, h.FunFrames base fs → ∀ e ∈ fs, ∀ L, e.frame = some L → ∃ o, h.get? L = some o ∧ ∀ vs, o.data ≠ .fields vs
  | [], _, _, m, _, _ => nomatch m
  | _ :: _, x, e, m, L, f => by
    obtain ⟨_, ⟨L', o, f', _, g, d⟩, r⟩ := x
    rcases List.mem_cons.mp m with rfl | m
    · rw [f] at f'; cases f'; exact ⟨o, g, d⟩
    · exact funFrames_get r e m L f
theorem funFrames_kept : ∀ {fs : List Env}, h.FunFrames base fs → (∀ e ∈ fs, ∀ L, e.frame = some L → ∀ o, h.get? L = some o → h'.get? L = some o) → h'.FunFrames base fs
  | [], _, _ => trivial
  | _ :: _, x, k => by
    obtain ⟨a, ⟨L, o, f, n, g, d⟩, r⟩ := x
    exact ⟨a, ⟨L, o, f, n, k _ (.head _) L f o g, d⟩, funFrames_kept r fun e m => k e (.tail _ m)⟩

theorem not_mem_step (S : Step ρ h ρ' h') {a : Addr} {o : Obj} (n : a ∉ ρ) (e : h.get? a = some o) : a ∉ ρ' := fun m => by
  have := S.new a m n
  rw [e] at this; cases this

theorem Fok.next (x : Fok base fs ρ h) (S : Step ρ h ρ' h') : Fok base fs ρ' h' := by
  refine ⟨funFrames_kept x.frs fun e m L f o g => S.kept _ _ g (x.frF e m L f), fun e m L f => ?_, x.frB, x.ne⟩
  obtain ⟨o, g, _⟩ := funFrames_get x.frs e m L f
  exact not_mem_step S (x.frF e m L f) g
theorem Fok.big (x : Fok base fs ρ h) : base.objs.size ≤ h.objs.size := by
  obtain ⟨e, r, he⟩ := List.exists_cons_of_ne_nil x.ne
  subst he
  obtain ⟨_, ⟨L, o, f, _, g, _⟩, _⟩ := x.frs
  exact Nat.le_of_lt (Nat.lt_of_le_of_lt (x.frB e (.head _) L f) (Heap.lt_size g))
theorem Inv.next (x : Inv w base env fs σ ρ H h) (S : Step ρ h ρ' h') (P : HeapOk w base ρ' H' h') : Inv w base env fs σ ρ' H' h' := by
  have pl := S.plain x.hp
  refine ⟨P, ?_, ?_, x.locB, ?_, x.cinj, x.fok.next S, x.envk, x.envg, x.envb⟩
  · obtain ⟨m, ns, hv⟩ := x.vars
    obtain ⟨oL, es, ep, gL, r⟩ := ns
    refine ⟨m, ⟨oL, es, ep, S.kept _ _ gL x.locF, r⟩, fun i v e => ?_⟩
    obtain ⟨lt, r, av, z⟩ := hv i v e
    refine ⟨lt, r, av.mono pl S.pre, z.imp id fun ⟨k, c, o, cl, g, d⟩ => ⟨k, c, o, cl, S.kept _ _ g (x.cells _ _ cl).1, d⟩⟩
  · obtain ⟨m, ⟨oL, es, ep, gL, r⟩, hv⟩ := x.vars
    exact not_mem_step S x.locF gL
  · intro y c cl
    obtain ⟨a, b, d, o, v, g, q⟩ := x.cells y c cl
    exact ⟨not_mem_step S a g, b, d, o, v, S.kept _ _ g a, q⟩

/-! a numbered object changes; a new one -/
theorem HeapOk.upd (x : HeapOk w base ρ H h) {d : Nat} {a : Addr} {ao : AO} (e : ρ[d]? = some a) (k : ∀ b o, b ≠ a → h.get? b = some o → h'.get? b = some o) (n : ObjAt w h' ρ a ao) : HeapOk w base ρ (H.set d ao) h' := by
  have ma : a ∈ ρ := List.mem_of_getElem? e
  have pl : Plain h h' := x.plain fun b o g nb => k b o (fun z => nb (z ▸ ma)) g
  refine ⟨by rw [List.length_set]; exact x.len, x.nodup, x.fresh, fun b o g => ?_, fun i b ao' ei eh => ?_⟩
  · refine k b o (fun z => ?_) (x.stay b o g)
    subst z
    exact absurd (Heap.lt_size g) (Nat.not_lt.mpr (x.fresh b ma))
  · by_cases q : i = d
    · subst q
      rw [e] at ei; cases ei
      have lt : i < H.length := by
        have := (List.getElem?_eq_some_iff.mp e).1
        rw [← x.len]; exact this
      rw [List.getElem?_set_self lt] at eh
      cases eh
      exact n
    · rw [List.getElem?_set_ne (Ne.symm q)] at eh
      have nb : b ≠ a := fun z => by
        subst z
        obtain ⟨l1, e1⟩ := List.getElem?_eq_some_iff.mp ei
        obtain ⟨l2, e2⟩ := List.getElem?_eq_some_iff.mp e
        have pw := List.pairwise_iff_getElem.mp x.nodup
        rcases Nat.lt_trichotomy i d with c | c | c
        · exact pw i d l1 l2 c (e1.trans e2.symm)
        · exact q c
        · exact pw d i l2 l1 c (e2.trans e1.symm)
      exact (x.at' i b ao' ei eh).mono pl ⟨[], by simp⟩ fun o g => k b o nb g
theorem Step.upd {d : Nat} {a : Addr} (e : ρ[d]? = some a) (k : ∀ b o, b ≠ a → h.get? b = some o → h'.get? b = some o) : Step ρ h ρ h' :=
  ⟨⟨[], by simp⟩, fun b o g n => k b o (fun z => n (z ▸ List.mem_of_getElem? e)) g, fun _ m n => absurd m n⟩
theorem HeapOk.add (x : HeapOk w base ρ H h) {a : Addr} {ao : AO} (f : h.get? a = none) (b : base.objs.size ≤ a) (k : ∀ b o, h.get? b = some o → h'.get? b = some o) (n : ObjAt w h' (ρ ++ [a]) a ao) : HeapOk w base (ρ ++ [a]) (H ++ [ao]) h' := by
  have na : a ∉ ρ := fun m => by
    obtain ⟨i, hi, e⟩ := List.getElem_of_mem m
    have hH : i < H.length := x.len ▸ hi
    have := x.at' i ρ[i] H[i] (List.getElem?_eq_getElem hi) (List.getElem?_eq_getElem hH)
    rw [e] at this
    generalize H[i] = ao at this
    cases ao with
    | list l => obtain ⟨ws, ⟨n, q⟩, _⟩ := this; rw [f] at q; cases q
    | dict fs => obtain ⟨ws, n, q, _⟩ := this; rw [f] at q; cases q
    | inst C d => obtain ⟨dx, _, q⟩ := this; rw [f] at q; cases q
    | map fs => obtain ⟨kvs, ⟨o', es, ep, q, x, _⟩, _⟩ := this; rw [f] at q; cases q
  have y := x.keeps k
  refine ⟨by simp [x.len], ?_, ?_, y.stay, fun i b ao' ei eh => ?_⟩
  · rw [List.nodup_append]
    exact ⟨x.nodup, by simp, fun p hp q hq e => na (by rw [List.mem_singleton] at hq; rw [← hq, ← e]; exact hp)⟩
  · intro b hb
    rcases List.mem_append.mp hb with hb | hb
    · exact x.fresh b hb
    · rw [List.mem_singleton.mp hb]; assumption
  · by_cases q : i < ρ.length
    · rw [List.getElem?_append_left q] at ei
      rw [List.getElem?_append_left (x.len ▸ q)] at eh
      exact (y.at' i b ao' ei eh).mono (fun _ _ e _ => e) ⟨[a], rfl⟩ fun _ e => e
    · rw [List.getElem?_append_right (by omega)] at ei
      rw [List.getElem?_append_right (by rw [← x.len]; omega), ← x.len] at eh
      have z : i - ρ.length = 0 := by
        have := (List.getElem?_eq_some_iff.mp ei).1
        simp at this
        omega
      rw [z] at ei eh
      simp at ei eh
      subst ei eh
      exact n
theorem Step.add {a : Addr} (f : h.get? a = none) (k : ∀ b o, h.get? b = some o → h'.get? b = some o) : Step ρ h (ρ ++ [a]) h' :=
  ⟨⟨[a], rfl⟩, fun b o g _ => k b o g, fun b m n => by
    rcases List.mem_append.mp m with m | m
    · exact absurd m n
    · rw [List.mem_singleton.mp m]; exact f⟩
end
end Mine
end
/-! part D2 -/
section
open PySem PySem.W PyProof.Rows
set_option maxRecDepth 100000
set_option linter.unusedVariables false
namespace Mine

structure Ax (A : Around) (fs : List Env) (k : Nat) : Prop where
  hh : A.handled = none
  fr : A.frames = some fs
  dp : A.depth + k < recursionLimit
  un : A.units + 8 * k < cLine
theorem Ax.le {A : Around} {fs : List Env} {k k' : Nat} (x : Ax A fs k) (h : k' ≤ k) : Ax A fs k' := ⟨x.hh, x.fr, by have := x.dp; omega, by have := x.un; omega⟩

structure Wd (w : World) (base : Heap) : Prop where
  X : (hd.heap_39 w.params).In base
  T : ∃ mean mg mb, Top hd.view_39 (looseW hd.view_39 []) mean mg mb base

noncomputable abbrev ED := AS → AH → Option (AV × AH)
noncomputable abbrev TD := AS → AH → Option (Bool × AH)

/-- the expression's run is what f says -/
noncomputable def DenE (w : World) (base : Heap) (k : Nat) (env : Env) (e : Expr) (f : ED) : Prop :=
  ∀ ⦃A : Around⦄ ⦃fs : List Env⦄ ⦃σ : AS⦄ ⦃ρ : List Addr⦄ ⦃H : AH⦄ ⦃v : AV⦄ ⦃H' : AH⦄ ⦃s : Shared⦄ ⦃Q : Value → Shared → Prop⦄ ⦃E : Value → Shared → Prop⦄,
    Wd w base → Ax A fs k → Inv w base env fs σ ρ H s.heap → f σ H = some (v, H') →
    (∀ ρ' h' tk r, Step ρ s.heap ρ' h' → HeapOk w base ρ' H' h' → AVis h' ρ' v r → Q r { s with heap := h', toks := tk }) →
    wpAny (model PG w) A (eval e env) Q E s
noncomputable def DenT (w : World) (base : Heap) (k : Nat) (env : Env) (e : Expr) (f : TD) : Prop :=
  ∀ ⦃A : Around⦄ ⦃fs : List Env⦄ ⦃σ : AS⦄ ⦃ρ : List Addr⦄ ⦃H : AH⦄ ⦃v : Bool⦄ ⦃H' : AH⦄ ⦃s : Shared⦄ ⦃Q : Bool → Shared → Prop⦄ ⦃E : Value → Shared → Prop⦄,
    Wd w base → Ax A fs k → Inv w base env fs σ ρ H s.heap → f σ H = some (v, H') →
    (∀ ρ' h' tk, Step ρ s.heap ρ' h' → HeapOk w base ρ' H' h' → Q v { s with heap := h', toks := tk }) →
    wpAny (model PG w) A (isTrue e env (eval e env)) Q E s

section
variable {w : World} {base : Heap} {k : Nat} {env : Env}

noncomputable def dInt (i : Int) : ED := fun _ H => some (.int i, H)
theorem dInt_ok {i : Int} {kd : Nat} {p : Pos} : DenE w base k env (.Constant (.int i) kd p) (dInt i) := by
  intro A fs σ ρ H v H' s Q E W a I e q
  cases e
  exact wpAny_Constant_int (q ρ s.heap _ _ (.refl ..) I.hp (by unfold AVis; exact ⟨_, rfl⟩))
noncomputable def dNone : ED := fun _ H => some (.none, H)
theorem dNone_ok {kd : Nat} {p : Pos} : DenE w base k env (.Constant .none kd p) dNone := by
  intro A fs σ ρ H v H' s Q E W a I e q
  cases e
  exact wpAny_Constant_none (q ρ s.heap s.toks _ (.refl ..) I.hp (by unfold AVis; rfl))
noncomputable def dBool (b : Bool) : ED := fun _ H => some (.bool b, H)
theorem dBool_ok {b : Bool} {kd : Nat} {p : Pos} : DenE w base k env (.Constant (.bool b) kd p) (dBool b) := by
  intro A fs σ ρ H v H' s Q E W a I e q
  cases e
  exact wpAny_Constant_bool (q ρ s.heap s.toks _ (.refl ..) I.hp (by unfold AVis; rfl))

theorem nm_dbg {i : Nat} (hi : i < 86) : (nm i == ("__debug__" : Str)) = false := by
  have all : ∀ a : Fin 86, (nm a.val == ("__debug__" : Str)) = false := by decide +kernel
  exact all ⟨i, hi⟩
theorem nm_cls {i : Nat} (hi : i < 86) : (nm i == ("__classdict__" : Str)) = false := by
  have all : ∀ a : Fin 86, (nm a.val == ("__classdict__" : Str)) = false := by decide +kernel
  exact all ⟨i, hi⟩

noncomputable def dVar (i : Nat) : ED := fun σ H => match lk i σ with | some v => some (v, H) | Option.none => Option.none
theorem loadVar {A : Around} {fs : List Env} {σ : AS} {ρ : List Addr} {H : AH} {v : AV} {s : Shared} {Q : Value → Shared → Prop} {E : Value → Shared → Prop} {i : Nat}
    (I : Inv w base env fs σ ρ H s.heap) (e : lk i σ = some v) (q : ∀ r, AVis s.heap ρ v r → Q r s) : wpAny (model PG w) A (loadName env (nm i)) Q E s := by
  obtain ⟨m, ns, hv⟩ := I.vars
  obtain ⟨lt, r, av, (⟨hk, hm⟩ | ⟨hk, c, o, hc, ho, hd⟩)⟩ := hv i v e
  · exact wpAny_loadName_local I.envk hk ns hm (q r av)
  · rcases hk with hk | hk
    · exact wpAny_loadName_cell I.envk hk hc ⟨o, ho, hd⟩ (q r av)
    · exact wpAny_loadName_free I.envk hk hc ⟨o, ho, hd⟩ (q r av) (nm_cls lt)
theorem dVar_ok (i : Nat) {x : Str} {p : Pos} (hx : x = nm i) (lt : i < 86) : DenE w base k env (.Name x p) (dVar i) := by
  intro A fs σ ρ H v H' s Q E W a I e q
  subst hx
  unfold dVar at e
  split at e
  · rename_i v' hv
    cases e
    exact wpAny_Name (loadVar I hv fun r av => q ρ s.heap s.toks r (.refl ..) I.hp av) (nm_dbg lt)
  · cases e

/-! unary -/
noncomputable def dNeg (f : ED) : ED := fun σ H => match f σ H with | some (.int x, H') => some (.int (-x), H') | _ => Option.none
theorem dNeg_ok {e : Expr} {f : ED} {p : Pos} (hf : DenE w base k env e f) : DenE w base k env (.UnaryOp .USub e p) (dNeg f) := by
  intro A fs σ ρ H v H' s Q E W a I e q
  unfold dNeg at e
  split at e
  · rename_i x H₁ he
    cases e
    refine wpAny_UnaryOp (hf W a I he fun ρ' h' tk r S P av => ?_)
    unfold AVis at av
    obtain ⟨t, rfl⟩ := av
    exact PySem.P.neg_int (q ρ' h' _ _ S P (by unfold AVis; exact ⟨_, rfl⟩))
  · cases e
noncomputable def dInv (f : ED) : ED := fun σ H => match f σ H with | some (.int x, H') => some (.int (Builtin.bitNot x), H') | _ => Option.none
theorem dInv_ok {e : Expr} {f : ED} {p : Pos} (hf : DenE w base k env e f) : DenE w base k env (.UnaryOp .Invert e p) (dInv f) := by
  intro A fs σ ρ H v H' s Q E W a I e q
  unfold dInv at e
  split at e
  · rename_i x H₁ he
    cases e
    refine wpAny_UnaryOp (hf W a I he fun ρ' h' tk r S P av => ?_)
    unfold AVis at av
    obtain ⟨t, rfl⟩ := av
    exact PyProof.Rows.invert_int (q ρ' h' _ _ S P (by unfold AVis; exact ⟨_, rfl⟩))
  · cases e

/-! binary, on ints -/
noncomputable def BinOk (o : Operator) (op : Int → Int → Option Int) : Prop :=
  ∀ ⦃w : World⦄ ⦃A : Around⦄ ⦃x y z : Int⦄ ⦃t u : Tok⦄ ⦃Q E : Value → Shared → Prop⦄ ⦃s : Shared⦄, op x y = some z → (∀ tk t', Q (.int z t') { s with toks := tk }) →
    wpAny (model PG w) A (binaryOp o (.int x t) (.int y u)) Q E s ∧ wpAny (model PG w) A (inplaceOp o (.int x t) (.int y u)) Q E s
noncomputable def oAdd (x y : Int) : Option Int := some (x + y)
theorem oAdd_ok : BinOk .Add oAdd := fun w A x y z t u Q E s e q => by cases e; exact ⟨P.add_int (q _ _), P.iadd_int (q _ _)⟩
noncomputable def oSub (x y : Int) : Option Int := some (x - y)
theorem oSub_ok : BinOk .Sub oSub := fun w A x y z t u Q E s e q => by cases e; exact ⟨P.sub_int (q _ _), P.isub_int (q _ _)⟩
noncomputable def sm (x : Int) : Bool := decide (x.natAbs < 2 ^ 64)
noncomputable def oMul (x y : Int) : Option Int := if sm x then some (x * y) else Option.none
theorem oMul_ok : BinOk .Mult oMul := fun w A x y z t u Q E s e q => by
  unfold oMul at e
  split at e
  · rename_i h
    cases e
    have h := of_decide_eq_true h
    have hm : IntMulOk x y := .of_left (intBits_le_64 (by omega) (by omega))
    exact ⟨P.mul_int (q _ _) hm, P.imul_int (q _ _) hm⟩
  · cases e
noncomputable def smD (y : Int) : Bool := decide (y ≠ 0 ∧ y.natAbs < 1073741824)
noncomputable def oDiv (x y : Int) : Option Int := if smD y then some (x.fdiv y) else Option.none
theorem oDiv_ok : BinOk .FloorDiv oDiv := fun w A x y z t u Q E s e q => by
  unfold oDiv at e
  split at e
  · rename_i h
    cases e
    obtain ⟨h1, h2⟩ := of_decide_eq_true h
    exact ⟨PyProof.Rows.floordiv_int h1 (q _ _) (.inl (PyProof.noPylong_small h2)), PyProof.Rows.ifloordiv_int h1 (q _ _) (.inl (PyProof.noPylong_small h2))⟩
  · cases e
noncomputable def oMod (x y : Int) : Option Int := if y = 0 then Option.none else some (x.fmod y)
theorem oMod_ok : BinOk .Mod oMod := fun w A x y z t u Q E s e q => by
  unfold oMod at e
  split at e
  · cases e
  · rename_i h
    cases e
    exact ⟨PyProof.Rows.mod_int' h (q _ _), PyProof.Rows.imod_int h (q _ _)⟩
noncomputable def smS (x n : Int) : Bool := decide (0 ≤ n ∧ n ≤ 1000000 ∧ x.natAbs < 2 ^ 64)
noncomputable def oPow (x y : Int) : Option Int := if smS x y then some (x ^ y.toNat) else Option.none
theorem oPow_ok : BinOk .Pow oPow := fun w A x y z t u Q E s e q => by
  unfold oPow at e
  split at e
  · rename_i h
    cases e
    obtain ⟨h1, h2, h3⟩ := of_decide_eq_true h
    exact ⟨PyProof.Rows.pow_int_small h1 h2 h3 (q _ _), PyProof.Rows.ipow_int_small h1 h2 h3 (q _ _)⟩
  · cases e
noncomputable def oShl (x y : Int) : Option Int := if smS x y then some (x * 2 ^ y.toNat) else Option.none
theorem oShl_ok : BinOk .LShift oShl := fun w A x y z t u Q E s e q => by
  unfold oShl at e
  split at e
  · rename_i h
    cases e
    obtain ⟨h1, h2, h3⟩ := of_decide_eq_true h
    exact ⟨PyProof.Rows.lshift_int_small h1 h2 h3 (q _ _), PyProof.Rows.ilshift_int_small h1 h2 h3 (q _ _)⟩
  · cases e
noncomputable def oShr (x y : Int) : Option Int := if 0 ≤ y then some (x.fdiv (2 ^ y.toNat)) else Option.none
theorem oShr_ok : BinOk .RShift oShr := fun w A x y z t u Q E s e q => by
  unfold oShr at e
  split at e
  · rename_i h
    cases e
    exact ⟨PyProof.Rows.rshift_int h (q _ _), PyProof.Rows.irshift_int h (q _ _)⟩
  · cases e
noncomputable def oOr (x y : Int) : Option Int := some (Builtin.bitOr x y)
theorem oOr_ok : BinOk .BitOr oOr := fun w A x y z t u Q E s e q => by cases e; exact ⟨PyProof.Rows.or_int (q _ _), PyProof.Rows.ior_int (q _ _)⟩
noncomputable def oAnd (x y : Int) : Option Int := some (Builtin.bitAnd x y)
theorem oAnd_ok : BinOk .BitAnd oAnd := fun w A x y z t u Q E s e q => by cases e; exact ⟨PyProof.Rows.and_int (q _ _), PyProof.Rows.iand_int (q _ _)⟩
noncomputable def oXor (x y : Int) : Option Int := some (Builtin.bitXor x y)
theorem oXor_ok : BinOk .BitXor oXor := fun w A x y z t u Q E s e q => by cases e; exact ⟨PyProof.Rows.xor_int (q _ _), PyProof.Rows.ixor_int (q _ _)⟩

noncomputable def dBin (op : Int → Int → Option Int) (f g : ED) : ED := fun σ H => match f σ H with
  | some (.int x, H₁) => (match g σ H₁ with
    | some (.int y, H₂) => (match op x y with | some z => some (.int z, H₂) | Option.none => Option.none)
    | _ => Option.none)
  | _ => Option.none
theorem dBin_ok {o : Operator} {op : Int → Int → Option Int} (ho : BinOk o op) {l r : Expr} {f g : ED} {p : Pos} (hf : DenE w base k env l f) (hg : DenE w base k env r g) :
    DenE w base k env (.BinOp l o r p) (dBin op f g) := by
  intro A fs σ ρ H v H' s Q E W a I e q
  unfold dBin at e
  split at e
  · rename_i x H₁ h1
    split at e
    · rename_i y H₂ h2
      split at e
      · rename_i z h3
        cases e
        refine wpAny_BinOp (hf W a I h1 fun ρ₁ g₁ t₁ r₁ S₁ P₁ v₁ => hg W a (I.next S₁ P₁) h2 fun ρ₂ g₂ t₂ r₂ S₂ P₂ v₂ => ?_)
        unfold AVis at v₁ v₂
        obtain ⟨_, rfl⟩ := v₁
        obtain ⟨_, rfl⟩ := v₂
        exact (ho h3 fun tk t' => q ρ₂ g₂ tk _ (S₁.trans S₂) P₂ (by unfold AVis; exact ⟨_, rfl⟩)).1
      · cases e
    · cases e
  · cases e

/-! comparisons of ints -/
noncomputable def CmpOk (o : CmpOp) (c : Int → Int → Bool) : Prop :=
  ∀ ⦃w : World⦄ ⦃A : Around⦄ ⦃x y : Int⦄ ⦃t u : Tok⦄ ⦃Q E : Value → Shared → Prop⦄ ⦃s : Shared⦄, Q (.bool (c x y)) s → wpAny (model PG w) A (compareOp o (.int x t) (.int y u)) Q E s
theorem cEq_ok : CmpOk .Eq fun x y => decide (x = y) := fun w A x y t u Q E s q => PyProof.Rows.eq_int (by rw [show (x == y) = decide (x = y) from rfl]; exact q)
theorem cNe_ok : CmpOk .NotEq fun x y => !decide (x = y) := fun w A x y t u Q E s q => PyProof.Rows.ne_int (by rw [show (x != y) = !decide (x = y) from rfl]; exact q)
theorem cLt_ok : CmpOk .Lt fun x y => decide (x < y) := fun w A x y t u Q E s q => PyProof.Rows.lt_int q
theorem cLe_ok : CmpOk .LtE fun x y => decide (x ≤ y) := fun w A x y t u Q E s q => PyProof.Rows.le_int q
theorem cGt_ok : CmpOk .Gt fun x y => decide (y < x) := fun w A x y t u Q E s q => PyProof.Rows.gt_int q
theorem cGe_ok : CmpOk .GtE fun x y => decide (y ≤ x) := fun w A x y t u Q E s q => PyProof.Rows.ge_int q

noncomputable def dCmp (c : Int → Int → Bool) (f g : ED) : TD := fun σ H => match f σ H with
  | some (.int x, H₁) => (match g σ H₁ with
    | some (.int y, H₂) => some (c x y, H₂)
    | _ => Option.none)
  | _ => Option.none
/-- a test's value -/
noncomputable def dVal (t : TD) : ED := fun σ H => match t σ H with | some (b, H') => some (.bool b, H') | Option.none => Option.none
theorem dCmp_ok {o : CmpOp} {c : Int → Int → Bool} (ho : CmpOk o c) {l r : Expr} {f g : ED} {p : Pos} (hf : DenE w base k env l f) (hg : DenE w base k env r g) (hm : behindInMarks o r = false) :
    DenE w base k env (.Compare l [o] [r] p) (dVal (dCmp c f g)) := by
  intro A fs σ ρ H v H' s Q E W a I e q
  unfold dVal dCmp at e
  split at e
  · rename_i b H₃ h0
    cases e
    split at h0
    · rename_i x H₁ h1
      split at h0
      · rename_i y H₂ h2
        cases h0
        refine wpAny_Compare1 (hf W a I h1 fun ρ₁ g₁ t₁ r₁ S₁ P₁ v₁ => hg W a (I.next S₁ P₁) h2 fun ρ₂ g₂ t₂ r₂ S₂ P₂ v₂ => ?_) hm
        unfold AVis at v₁ v₂
        obtain ⟨_, rfl⟩ := v₁
        obtain ⟨_, rfl⟩ := v₂
        exact ho (q ρ₂ g₂ _ _ (S₁.trans S₂) P₂ (by unfold AVis; rfl))
      · cases h0
    · cases h0
  · cases e
theorem tCmp_ok {o : CmpOp} {c : Int → Int → Bool} (ho : CmpOk o c) {l r : Expr} {f g : ED} {p : Pos} (hf : DenE w base k env l f) (hg : DenE w base k env r g) (hm : behindInMarks o r = false) :
    DenT w base k env (.Compare l [o] [r] p) (dCmp c f g) := by
  intro A fs σ ρ H v H' s Q E W a I e q
  unfold dCmp at e
  split at e
  · rename_i x H₁ h1
    split at e
    · rename_i y H₂ h2
      cases e
      refine wpAny_isTrue_Compare1 (hf W a I h1 fun ρ₁ g₁ t₁ r₁ S₁ P₁ v₁ => hg W a (I.next S₁ P₁) h2 fun ρ₂ g₂ t₂ r₂ S₂ P₂ v₂ => ?_) hm
      unfold AVis at v₁ v₂
      obtain ⟨_, rfl⟩ := v₁
      obtain ⟨_, rfl⟩ := v₂
      exact ho (wpAny_truthy_bool (q ρ₂ g₂ _ (S₁.trans S₂) P₂))
    · cases e
  · cases e
/-- a < b < c, asked -/
noncomputable def dChain (c d : Int → Int → Bool) (f g j : ED) : TD := fun σ H => match f σ H with
  | some (.int x, H₁) => (match g σ H₁ with
    | some (.int y, H₂) => if c x y then (match j σ H₂ with | some (.int z, H₃) => some (d y z, H₃) | _ => Option.none) else some (false, H₂)
    | _ => Option.none)
  | _ => Option.none
theorem tChain_ok {o o' : CmpOp} {c d : Int → Int → Bool} (ho : CmpOk o c) (ho' : CmpOk o' d) {l r r' : Expr} {f g j : ED} {p : Pos} (hf : DenE w base k env l f) (hg : DenE w base k env r g) (hj : DenE w base k env r' j)
    (hm : lastMarks [o, o'] [r, r'] = false) : DenT w base k env (.Compare l [o, o'] [r, r'] p) (dChain c d f g j) := by
  intro A fs σ ρ H v H' s Q E W a I e q
  unfold dChain at e
  split at e
  · rename_i x H₁ h1
    split at e
    · rename_i y H₂ h2
      refine isTrue_chain (hf W a I h1 fun ρ₁ g₁ t₁ r₁ S₁ P₁ v₁ => test_link (hg W a (I.next S₁ P₁) h2 fun ρ₂ g₂ t₂ r₂ S₂ P₂ v₂ => ?_)) hm
      unfold AVis at v₁ v₂
      obtain ⟨_, rfl⟩ := v₁
      obtain ⟨_, rfl⟩ := v₂
      refine ho (wpAny_truthy_bool ?_)
      have I₂ := I.next (S₁.trans S₂) P₂
      split at e
      · rename_i hc
        rw [if_pos hc]
        split at e
        · rename_i z H₃ h3
          cases e
          refine test_last (hj W a I₂ h3 fun ρ₃ g₃ t₃ r₃ S₃ P₃ v₃ => ?_)
          unfold AVis at v₃
          obtain ⟨_, rfl⟩ := v₃
          exact ho' (wpAny_truthy_bool (q ρ₃ g₃ _ ((S₁.trans S₂).trans S₃) P₃))
        · cases e
      · rename_i hc
        rw [if_neg hc]
        cases e
        exact q ρ₂ g₂ _ (S₁.trans S₂) P₂
    · cases e
  · cases e

/-! truth -/
noncomputable def truth : AV → Option Bool
  | .none => some false
  | .bool b => some b
  | .int i => some (!decide (i = 0))
  | _ => Option.none
theorem truthy_ok {A : Around} {v : AV} {b : Bool} {h : Heap} {ρ : List Addr} {r : Value} {Q : Bool → Shared → Prop} {E : Value → Shared → Prop} {s : Shared} (e : truth v = some b) (av : AVis h ρ v r) (q : Q b s) : wpAny (model PG w) A (truthy r) Q E s := by
  cases v with
  | none => cases e; unfold AVis at av; subst av; exact PyProof.Rows.truthy_none q
  | bool c => cases e; unfold AVis at av; subst av; exact wpAny_truthy_bool q
  | int i => cases e; unfold AVis at av; obtain ⟨t, rfl⟩ := av; exact PyProof.Rows.truthy_int (by rw [show (i != 0) = !decide (i = 0) from rfl]; exact q)
  | _ => cases e
noncomputable def dTru (f : ED) : TD := fun σ H => match f σ H with
  | some (v, H₁) => (match truth v with | some b => some (b, H₁) | Option.none => Option.none)
  | Option.none => Option.none
/-- a test that is no comparison, no and, or, not, if -/
theorem tTru_ok {e : Expr} {f : ED} (hf : DenE w base k env e f) (he : ∀ whole, isTrue e env whole = (do let v ← whole; standAt e.pos; holding [v] (truthy v))) : DenT w base k env e (dTru f) := by
  intro A fs σ ρ H v H' s Q E W a I e q
  unfold dTru at e
  split at e
  · rename_i v₁ H₁ h1
    split at e
    · rename_i b hb
      cases e
      exact isTrue_plain (hf W a I h1 fun ρ₁ g₁ t₁ r₁ S₁ P₁ v₁ => truthy_ok hb v₁ (q ρ₁ g₁ _ S₁ P₁)) (he _)
    · cases e
  · cases e
noncomputable def dNot (t : TD) : TD := fun σ H => match t σ H with | some (b, H') => some (!b, H') | Option.none => Option.none
theorem tNot_ok {e : Expr} {t : TD} {p : Pos} (ht : DenT w base k env e t) : DenT w base k env (.UnaryOp .Not e p) (dNot t) := by
  intro A fs σ ρ H v H' s Q E W a I e q
  unfold dNot at e
  split at e
  · rename_i b H₁ h1
    cases e
    exact wpAny_isTrue_Not (ht W a I h1 fun ρ₁ g₁ t₁ S₁ P₁ => q ρ₁ g₁ _ S₁ P₁)
  · cases e
/-- the values of an and | or, asked one by one -/
noncomputable def DenA (w : World) (base : Heap) (k : Nat) (env : Env) (o : BoolOp) (es : List Expr) (f : TD) : Prop :=
  ∀ ⦃A : Around⦄ ⦃fs : List Env⦄ ⦃σ : AS⦄ ⦃ρ : List Addr⦄ ⦃H : AH⦄ ⦃v : Bool⦄ ⦃H' : AH⦄ ⦃s : Shared⦄ ⦃Q : Bool → Shared → Prop⦄ ⦃E : Value → Shared → Prop⦄,
    Wd w base → Ax A fs k → Inv w base env fs σ ρ H s.heap → f σ H = some (v, H') →
    (∀ ρ' h' tk, Step ρ s.heap ρ' h' → HeapOk w base ρ' H' h' → Q v { s with heap := h', toks := tk }) →
    wpAny (model PG w) A (allTrue o es env) Q E s
noncomputable def dTT : TD := fun _ H => some (true, H)
noncomputable def dFF : TD := fun _ H => some (false, H)
noncomputable def dAnd (f g : TD) : TD := fun σ H => match f σ H with | some (true, H₁) => g σ H₁ | r => r
noncomputable def dOr (f g : TD) : TD := fun σ H => match f σ H with | some (false, H₁) => g σ H₁ | r => r
theorem aAnd_nil : DenA w base k env .And [] dTT := by
  intro A fs σ ρ H v H' s Q E W a I e q
  cases e
  exact wpAny_allTrue_And_nil (q ρ s.heap s.toks (.refl ..) I.hp)
theorem aOr_nil : DenA w base k env .Or [] dFF := by
  intro A fs σ ρ H v H' s Q E W a I e q
  cases e
  exact wpAny_allTrue_Or_nil (q ρ s.heap s.toks (.refl ..) I.hp)
theorem aAnd_cons {e : Expr} {es : List Expr} {f g : TD} (hf : DenT w base k env e f) (hg : DenA w base k env .And es g) : DenA w base k env .And (e :: es) (dAnd f g) := by
  intro A fs σ ρ H v H' s Q E W a I e q
  unfold dAnd at e
  split at e
  · rename_i H₁ h1
    exact wpAny_allTrue_And_cons (hf W a I h1 fun ρ₁ g₁ t₁ S₁ P₁ => by
      rw [if_pos rfl]
      exact hg W a (I.next S₁ P₁) e fun ρ₂ g₂ t₂ S₂ P₂ => q ρ₂ g₂ _ (S₁.trans S₂) P₂)
  · rename_i hne
    cases v with
    | true => exact absurd e (hne _)
    | false => exact wpAny_allTrue_And_cons (hf W a I e fun ρ₁ g₁ t₁ S₁ P₁ => by rw [if_neg Bool.false_ne_true]; exact q ρ₁ g₁ _ S₁ P₁)
theorem aOr_cons {e : Expr} {es : List Expr} {f g : TD} (hf : DenT w base k env e f) (hg : DenA w base k env .Or es g) : DenA w base k env .Or (e :: es) (dOr f g) := by
  intro A fs σ ρ H v H' s Q E W a I e q
  unfold dOr at e
  split at e
  · rename_i H₁ h1
    exact wpAny_allTrue_Or_cons (hf W a I h1 fun ρ₁ g₁ t₁ S₁ P₁ => by
      rw [if_neg Bool.false_ne_true]
      exact hg W a (I.next S₁ P₁) e fun ρ₂ g₂ t₂ S₂ P₂ => q ρ₂ g₂ _ (S₁.trans S₂) P₂)
  · rename_i hne
    cases v with
    | false => exact absurd e (hne _)
    | true => exact wpAny_allTrue_Or_cons (hf W a I e fun ρ₁ g₁ t₁ S₁ P₁ => by rw [if_pos rfl]; exact q ρ₁ g₁ _ S₁ P₁)
theorem tBool_ok {o : BoolOp} {es : List Expr} {f : TD} {p : Pos} (hf : DenA w base k env o es f) : DenT w base k env (.BoolOp o es p) f := by
  intro A fs σ ρ H v H' s Q E W a I e q
  exact wpAny_isTrue_BoolOp (hf W a I e q)

/-! values of and, or, if -/
noncomputable def dAndV (f g : ED) : ED := fun σ H => match f σ H with
  | some (v, H₁) => (match truth v with | some true => g σ H₁ | some false => some (v, H₁) | Option.none => Option.none)
  | Option.none => Option.none
noncomputable def dOrV (f g : ED) : ED := fun σ H => match f σ H with
  | some (v, H₁) => (match truth v with | some false => g σ H₁ | some true => some (v, H₁) | Option.none => Option.none)
  | Option.none => Option.none
theorem dAndV_ok {l r : Expr} {f g : ED} {p : Pos} (hf : DenE w base k env l f) (hg : DenE w base k env r g) : DenE w base k env (.BoolOp .And [l, r] p) (dAndV f g) := by
  intro A fs σ ρ H v H' s Q E W a I e q
  unfold dAndV at e
  split at e
  · rename_i v₁ H₁ h1
    split at e
    · rename_i hb
      exact BoolOp_and (hf W a I h1 fun ρ₁ g₁ t₁ r₁ S₁ P₁ v₁ => truthy_ok hb v₁ (by
        rw [if_pos rfl]
        exact BoolOp_one (hg W a (I.next S₁ P₁) e fun ρ₂ g₂ t₂ r₂ S₂ P₂ v₂ => q ρ₂ g₂ _ _ (S₁.trans S₂) P₂ v₂)))
    · rename_i hb
      cases e
      exact BoolOp_and (hf W a I h1 fun ρ₁ g₁ t₁ r₁ S₁ P₁ v₁ => truthy_ok hb v₁ (by rw [if_neg Bool.false_ne_true]; exact q ρ₁ g₁ _ _ S₁ P₁ v₁))
    · cases e
  · cases e
theorem dOrV_ok {l r : Expr} {f g : ED} {p : Pos} (hf : DenE w base k env l f) (hg : DenE w base k env r g) : DenE w base k env (.BoolOp .Or [l, r] p) (dOrV f g) := by
  intro A fs σ ρ H v H' s Q E W a I e q
  unfold dOrV at e
  split at e
  · rename_i v₁ H₁ h1
    split at e
    · rename_i hb
      exact BoolOp_or (hf W a I h1 fun ρ₁ g₁ t₁ r₁ S₁ P₁ v₁ => truthy_ok hb v₁ (by
        rw [if_neg Bool.false_ne_true]
        exact BoolOp_one (hg W a (I.next S₁ P₁) e fun ρ₂ g₂ t₂ r₂ S₂ P₂ v₂ => q ρ₂ g₂ _ _ (S₁.trans S₂) P₂ v₂)))
    · rename_i hb
      cases e
      exact BoolOp_or (hf W a I h1 fun ρ₁ g₁ t₁ r₁ S₁ P₁ v₁ => truthy_ok hb v₁ (by rw [if_pos rfl]; exact q ρ₁ g₁ _ _ S₁ P₁ v₁))
    · cases e
  · cases e
noncomputable def dIf (t : TD) (f g : ED) : ED := fun σ H => match t σ H with
  | some (true, H₁) => f σ H₁
  | some (false, H₁) => g σ H₁
  | Option.none => Option.none
theorem dIf_ok {c l r : Expr} {t : TD} {f g : ED} {p : Pos} (ht : DenT w base k env c t) (hf : DenE w base k env l f) (hg : DenE w base k env r g) : DenE w base k env (.IfExp c l r p) (dIf t f g) := by
  intro A fs σ ρ H v H' s Q E W a I e q
  unfold dIf at e
  split at e
  · rename_i H₁ h1
    exact wpAny_IfExp (ht W a I h1 fun ρ₁ g₁ t₁ S₁ P₁ => by
      rw [if_pos rfl]
      exact hf W a (I.next S₁ P₁) e fun ρ₂ g₂ t₂ r₂ S₂ P₂ v₂ => q ρ₂ g₂ _ _ (S₁.trans S₂) P₂ v₂)
  · rename_i H₁ h1
    exact wpAny_IfExp (ht W a I h1 fun ρ₁ g₁ t₁ S₁ P₁ => by
      rw [if_neg Bool.false_ne_true]
      exact hg W a (I.next S₁ P₁) e fun ρ₂ g₂ t₂ r₂ S₂ P₂ v₂ => q ρ₂ g₂ _ _ (S₁.trans S₂) P₂ v₂)
  · cases e

/-- is None, is not None -/
noncomputable def isNone : AV → Bool
  | .none => true
  | _ => false
noncomputable def dIsN (f : ED) : TD := fun σ H => match f σ H with | some (v, H') => some (isNone v, H') | Option.none => Option.none
theorem avis_none {h : Heap} {ρ : List Addr} {v : AV} {r : Value} (x : AVis h ρ v r) : (r == .none) = isNone v := by
  cases v <;> unfold AVis at x <;> simp only [isNone]
  · subst x; rfl
  · subst x; rfl
  · obtain ⟨t, rfl⟩ := x; rfl
  · obtain ⟨t, _, rfl⟩ := x; rfl
  · obtain ⟨t, _, _, _, rfl, _⟩ := x; rfl
  · obtain ⟨t, _, _, _, rfl, _⟩ := x; rfl
theorem avis_plain {h : Heap} {ρ : List Addr} {v : AV} {r : Value} (x : AVis h ρ v r) : plainIs r .none = true := by
  cases v <;> unfold AVis at x
  · subst x; rfl
  · subst x; rfl
  · obtain ⟨t, rfl⟩ := x; rfl
  · obtain ⟨t, _, rfl⟩ := x; rfl
  · obtain ⟨t, _, _, _, rfl, _⟩ := x; rfl
  · obtain ⟨t, _, _, _, rfl, _⟩ := x; rfl
theorem tIsN_ok {e : Expr} {f : ED} {kd : Nat} {p p' : Pos} (hf : DenE w base k env e f) : DenT w base k env (.Compare e [.Is] [.Constant .none kd p'] p) (dIsN f) := by
  intro A fs σ ρ H v H' s Q E W a I e q
  unfold dIsN at e
  split at e
  · rename_i v₁ H₁ h1
    cases e
    refine wpAny_isTrue_Compare1 (hf W a I h1 fun ρ₁ g₁ t₁ r₁ S₁ P₁ v₁ => wpAny_Constant_none ?_) rfl
    exact wpAny_is_plain (avis_plain v₁) (wpAny_truthy_bool (by rw [avis_none v₁]; exact q ρ₁ g₁ _ S₁ P₁))
  · cases e
end
end Mine
end
/-! part D3 -/
section
open PySem PySem.W PyProof.Rows
set_option maxRecDepth 100000
set_option linter.unusedVariables false
namespace Mine

structure ClsOk (K : Frag) (C : Addr) : Prop where
  hasD : hasDictIn K C = true
  over : plainOver K C = true
  seta : findIn K (.ref C) "__setattr__" = some (some (.builtin "object.__setattr__"))
  geta : findIn K (.ref C) "__getattribute__" = some (some (.builtin "object.__getattribute__"))
  attr : ∀ i, i < 86 → findIn K (.ref C) (nm i) = some none

noncomputable def okC (C : Nat) : Bool := C == 112 || C == 198 || C == 275
theorem attr_of {K : Frag} {C : Addr} (h : (List.range 86).all (fun i => match findIn K (.ref C) (nm i) with | some none => true | _ => false) = true) : ∀ i, i < 86 → findIn K (.ref C) (nm i) = some none := by
  intro i hi
  have := List.all_eq_true.mp h i (List.mem_range.mpr hi)
  split at this
  · assumption
  · cases this
theorem cls112 (P : Params) : ClsOk (hd.heap_39 P) 112 := ⟨by kernel_rfl, by kernel_rfl, by kernel_rfl, by kernel_rfl, attr_of (by kernel_rfl)⟩
theorem cls198 (P : Params) : ClsOk (hd.heap_39 P) 198 := ⟨by kernel_rfl, by kernel_rfl, by kernel_rfl, by kernel_rfl, attr_of (by kernel_rfl)⟩
theorem cls275 (P : Params) : ClsOk (hd.heap_39 P) 275 := ⟨by kernel_rfl, by kernel_rfl, by kernel_rfl, by kernel_rfl, attr_of (by kernel_rfl)⟩
theorem okC_cls {C : Nat} (h : okC C = true) (P : Params) : ClsOk (hd.heap_39 P) C := by
  unfold okC at h
  simp only [Bool.or_eq_true, beq_iff_eq] at h
  rcases h with (rfl | rfl) | rfl
  · exact cls112 P
  · exact cls198 P
  · exact cls275 P

section
variable {w : World} {base : Heap} {k : Nat} {env : Env}

/-! lists of values -/
theorem AVall.len {h : Heap} {ρ : List Addr} : ∀ {l : List AV} {ws : List Value}, AVall h ρ l ws → ws.length = l.length
  | [], _, x => by unfold AVall at x; subst x; rfl
  | _ :: _, _, x => by
    unfold AVall at x
    obtain ⟨w, r, rfl, _, y⟩ := x
    rw [List.length_cons, List.length_cons, AVall.len y]
theorem AVall.get {h : Heap} {ρ : List Addr} : ∀ {l : List AV} {ws : List Value} {j : Nat} {v : AV}, AVall h ρ l ws → l[j]? = some v → ∃ r, ws[j]? = some r ∧ AVis h ρ v r
  | [], _, _, _, _, e => by simp at e
  | _ :: _, _, 0, _, x, e => by
    unfold AVall at x
    obtain ⟨w, r, rfl, a, _⟩ := x
    simp at e; subst e
    exact ⟨w, rfl, a⟩
  | _ :: _, _, j + 1, _, x, e => by
    unfold AVall at x
    obtain ⟨w, r, rfl, _, y⟩ := x
    simp only [List.getElem?_cons_succ] at e ⊢
    exact AVall.get y e
theorem AVall.set {h : Heap} {ρ : List Addr} {v : AV} {r : Value} (a : AVis h ρ v r) : ∀ {l : List AV} {ws : List Value} {j : Nat}, AVall h ρ l ws → AVall h ρ (l.set j v) (ws.set j r)
  | [], _, _, x => by unfold AVall at x; subst x; simp [AVall]
  | _ :: _, _, 0, x => by
    unfold AVall at x
    obtain ⟨w, r', rfl, _, y⟩ := x
    simp only [List.set_cons_zero]
    unfold AVall
    exact ⟨_, _, rfl, a, y⟩
  | _ :: _, _, j + 1, x => by
    unfold AVall at x
    obtain ⟨w, r', rfl, b, y⟩ := x
    simp only [List.set_cons_succ]
    unfold AVall
    exact ⟨_, _, rfl, b, AVall.set a y⟩
theorem AVall.append {h : Heap} {ρ : List Addr} : ∀ {l l' : List AV} {ws ws' : List Value}, AVall h ρ l ws → AVall h ρ l' ws' → AVall h ρ (l ++ l') (ws ++ ws')
  | [], _, _, _, x, y => by unfold AVall at x; subst x; exact y
  | _ :: _, _, _, _, x, y => by
    unfold AVall at x
    obtain ⟨w, r', rfl, b, z⟩ := x
    rw [List.cons_append, List.cons_append]
    unfold AVall
    exact ⟨_, _, rfl, b, AVall.append z y⟩
theorem AVall.nil {h : Heap} {ρ : List Addr} : AVall h ρ [] [] := by unfold AVall; rfl
theorem AVall.cons {h : Heap} {ρ : List Addr} {v : AV} {r : Value} {l : List AV} {ws : List Value} (a : AVis h ρ v r) (x : AVall h ρ l ws) : AVall h ρ (v :: l) (r :: ws) := by
  unfold AVall; exact ⟨_, _, rfl, a, x⟩

/-! attributes -/
theorem isStr_nm {i j : Nat} (hi : i < 86) (hj : j < 86) (t : Tok) : (Value.str (nm j) t).isStr (nm i) = decide (i = j) := by
  show (nm j == nm i) = _
  by_cases e : i = j
  · subst e; simp
  · rw [decide_eq_false e]
    exact beq_eq_false_iff_ne.mpr fun q => e (nm_inj hj hi q).symm
theorem ent_refKey {h : Heap} {ρ : List Addr} : ∀ {fs : List (Nat × AV)} {es : List DictEntry}, EntAll w h ρ fs es → es.any (·.refKey) = false
  | [], _, x => by unfold EntAll at x; subst x; rfl
  | (_, _) :: _, _, x => by
    unfold EntAll at x
    obtain ⟨t, v, r, rfl, _, _, y⟩ := x
    rw [List.any_cons, ent_refKey y]; rfl
theorem ent_get {h : Heap} {ρ : List Addr} {i : Nat} (hi : i < 86) : ∀ {fs : List (Nat × AV)} {es : List DictEntry}, EntAll w h ρ fs es →
    match lk i fs with
    | some v => ∃ r, getL (nm i) es = some (some r) ∧ AVis h ρ v r
    | Option.none => getL (nm i) es = some none
  | [], es, x => by
    unfold EntAll at x; subst x; rfl
  | (j, a) :: fs, _, x => by
    have rk := ent_refKey x
    unfold EntAll at x
    obtain ⟨t, v, r, rfl, hj, av, y⟩ := x
    have ih := ent_get hi y
    have rk' := ent_refKey y
    unfold lk
    by_cases e : i = j
    · subst e
      rw [if_pos rfl]
      refine ⟨v, ?_, av⟩
      unfold getL
      rw [List.find?_cons_of_pos (by rw [isStr_nm hi hi]; simp)]
    · rw [if_neg e]
      have g : getL (nm i) (⟨PyData.keyHash w.params (nm j), .str (nm j) t, v⟩ :: r) = getL (nm i) r := by
        unfold getL
        rw [List.find?_cons_of_neg (by rw [isStr_nm hi hj]; simp [e]), rk, rk']
      rw [g]
      exact ih
theorem ent_put {h : Heap} {ρ : List Addr} {i : Nat} {t : Tok} {v : AV} {r : Value} (hi : i < 86) (a : AVis h ρ v r) : ∀ {fs : List (Nat × AV)} {es : List DictEntry}, EntAll w h ρ fs es →
    EntAll w h ρ (put i v fs) (putL (nm i) (PyData.keyHash w.params (nm i)) (.str (nm i) t) r es)
  | [], es, x => by
    unfold EntAll at x; subst x
    unfold put putL EntAll
    exact ⟨t, r, [], rfl, hi, a, by unfold EntAll; rfl⟩
  | (j, b) :: fs, _, x => by
    unfold EntAll at x
    obtain ⟨t', v', r', rfl, hj, av, y⟩ := x
    unfold put putL
    by_cases e : i = j
    · subst e
      rw [if_pos rfl, if_pos (by rw [isStr_nm hi hi]; simp)]
      unfold EntAll
      exact ⟨t', r, r', rfl, hi, a, y⟩
    · rw [if_neg e, if_neg (by rw [isStr_nm hi hj]; simp [e])]
      unfold EntAll
      exact ⟨t', v', _, rfl, hj, av, ent_put hi a y⟩
theorem ent_len {h : Heap} {ρ : List Addr} : ∀ {fs : List (Nat × AV)} {es : List DictEntry}, EntAll w h ρ fs es → es.length = fs.length
  | [], _, x => by unfold EntAll at x; subst x; rfl
  | (_, _) :: _, _, x => by
    unfold EntAll at x
    obtain ⟨t, v, r, rfl, _, _, y⟩ := x
    rw [List.length_cons, List.length_cons, ent_len y]

noncomputable def attrsOf (H : AH) (o : AV) : Option (Nat × List (Nat × AV)) := match o with
  | .ref j => (match H[j]? with
    | some (.inst C d) => if okC C then (match H[d]? with | some (.dict fs) => some (d, fs) | _ => Option.none) else Option.none
    | _ => Option.none)
  | _ => Option.none
theorem attrsOf_at {H : AH} {o : AV} {d : Nat} {fs : List (Nat × AV)} (e : attrsOf H o = some (d, fs)) : ∃ j C, o = .ref j ∧ H[j]? = some (.inst C d) ∧ okC C = true ∧ H[d]? = some (.dict fs) := by
  unfold attrsOf at e
  split at e
  · split at e
    · split at e
      · split at e
        · cases e
          exact ⟨_, _, rfl, ‹_›, ‹_›, ‹_›⟩
        · cases e
      · cases e
    · cases e
  · cases e
theorem attrs_inst {ρ : List Addr} {H : AH} {o : AV} {d : Nat} {fs : List (Nat × AV)} {h : Heap} {r : Value} (x : HeapOk w base ρ H h) (e : attrsOf H o = some (d, fs)) (a : AVis h ρ o r) :
    ∃ C b dx es n, okC C = true ∧ r = .ref b ∧ ρ[d]? = some dx ∧ EntAll w h ρ fs es ∧ InstAt h b (instObj C dx) C (some (dictOf es n)) := by
  obtain ⟨j, C, rfl, hj, ok, hd⟩ := attrsOf_at e
  unfold AVis at a
  obtain ⟨b, hb, rfl⟩ := a
  obtain ⟨dx, hdx, g⟩ := x.at' j b _ hb hj
  obtain ⟨es, n, g', en⟩ := x.at' d dx _ hdx hd
  exact ⟨C, b, dx, es, n, ok, rfl, hdx, en, ⟨g, rfl, rfl, g'⟩⟩
noncomputable def dAttr (f : ED) (i : Nat) : ED := fun σ H => match f σ H with
  | some (o, H₁) => (match attrsOf H₁ o with | some (_, fs) => (match lk i fs with | some v => some (v, H₁) | Option.none => Option.none) | Option.none => Option.none)
  | Option.none => Option.none
theorem avis_handed {h : Heap} {ρ : List Addr} {v : AV} {r : Value} (x : AVis h ρ v r) : handedIn r = true := by
  cases v <;> unfold AVis at x
  · subst x; rfl
  · subst x; rfl
  · obtain ⟨t, rfl⟩ := x; rfl
  · obtain ⟨t, _, rfl⟩ := x; rfl
  · obtain ⟨t, _, _, _, rfl, _⟩ := x; rfl
  · obtain ⟨t, _, _, _, rfl, _⟩ := x; rfl
theorem getAttr_ok {A : Around} {ρ : List Addr} {H : AH} {o v : AV} {r : Value} {i d : Nat} {fs : List (Nat × AV)} {s : Shared} {ex : Bool} {Q : Value → Shared → Prop} {E : Value → Shared → Prop} (W : Wd w base)
    (P : HeapOk w base ρ H s.heap) (lt : i < 86) (e : attrsOf H o = some (d, fs)) (el : lk i fs = some v) (a : AVis s.heap ρ o r) (q : ∀ r, AVis s.heap ρ v r → Q r { s with toks := s.toks + 1 }) :
    wpAny (model PG w) A (getAttr r (nm i) ex) Q E s := by
  obtain ⟨C, b, dx, es, n, ok, rfl, hdx, en, I⟩ := attrs_inst P e a
  have c := okC_cls ok w.params
  have g := ent_get lt en
  rw [el] at g
  obtain ⟨r, hg, av⟩ := g
  exact get_value (W.X.keeps P.stay) I c.geta (findObj_own c.hasD (c.attr i lt) rfl hg) (avis_handed av) (q r av)
theorem dAttr_ok {e : Expr} {f : ED} {x : Str} (i : Nat) {p : Pos} (hx : x = nm i) (lt : i < 86) (hf : DenE w base k env e f) (he : attributeBase e x env (eval e env) = eval e env) :
    DenE w base k env (.Attribute e x p) (dAttr f i) := by
  intro A fs σ ρ H v H' s Q E W a I e q
  subst hx
  unfold dAttr at e
  split at e
  · rename_i o H₁ h1
    split at e
    · rename_i d fs' h2
      split at e
      · rename_i v' h3
        cases e
        refine Attribute_any_ (hf W a I h1 fun ρ₁ g₁ t₁ r₁ S₁ P₁ v₁ => getAttr_ok W P₁ lt h2 h3 v₁ fun r av => q ρ₁ g₁ _ r S₁ P₁ av) ?_
        rw [arm_eval_Attribute, he]
      · cases e
    · cases e
  · cases e

/-- setting an attribute -/
theorem osa_upd {A : Around} {R : Result → Shared → Prop} {K : Frag} {C x dx : Addr} {s : Shared} {es : List DictEntry} {n : Nat} {name : Str} {tk : Tok} {v : Value} (X : K.In s.heap) (I : InstAt s.heap x (instObj C dx) C (some (dictOf es n)))
    (hp : plainOver K C = true) (ht : takerIn K C name = some none) (hh : hasDictIn K C = true) (hl : (getL name es).isSome = true) (hz : (putL name (PyData.keyHash w.params name) (.str name s.toks) v es).length ≤ 1000)
    (h : ∀ h', h'.get? dx = some (dictOf (putL name (PyData.keyHash w.params name) (.str name s.toks) v es) (putN name es n)) → (∀ b o, b ≠ dx → s.heap.get? b = some o → h'.get? b = some o) → R (.ok (.ret .none)) { s with heap := h', toks := s.toks + 1 }) :
    codeAny (model PG w) A (.call (.builtin "object.__setattr__") ⟨[.ref x, .str name tk, v], []⟩) R s := by
  refine osa_open X I hp ht fun b => ?_
  obtain ⟨cd, hc, hd'⟩ := any_some hh
  have D : s.heap.get? dx = some (dictOf es n) := I.dict
  have ep := putName_dict name (PyData.keyHash w.params name) (.str name s.toks) v es n
  have D' : (s.heap.update dx (Obj.putName name (PyData.keyHash w.params name) (.str name s.toks) v)).get? dx = some (dictOf (putL name (PyData.keyHash w.params name) (.str name s.toks) v es) (putN name es n)) := by
    rw [← ep]
    exact Heap.get?_update_self _ D (by rw [ep]; rfl)
  obtain ⟨hx, hcl, hn, -⟩ := I
  refine wpAny_bind (wpAny_pure (wpAny_bind (wpAny_bind (wpAny_loadPart hx (wpAny_bind ((looks_clsIn X hc).here ?_))))))
  rw [hd']
  refine wpAny_pure (a := some dx) (wpAny_bind (wpAny_pure (wpAny_bind ?_)))
  unfold nsSet
  refine wpAny_bind (wpAny_bind (wpAny_askSetting (wpAny_pure (wpAny_bind (wpAny_mkText (wpAny_bind (wpAny_loadPart D ?_)))))))
  dsimp only
  have c : (!es.toArray.any (·.key.isStr name) && es.toArray.any (·.refKey)) = false := by
    rw [← Array.any_toList, ← Array.any_toList]
    unfold getL at hl
    split at hl
    · rename_i en he
      rw [List.any_eq_true.mpr ⟨en, List.mem_of_find?_eq_some he, List.find?_some he⟩]; rfl
    · split at hl
      · cases hl
      · rename_i z; rw [Bool.not_eq_true] at z
        show (_ && es.any (·.refKey)) = false
        rw [z, Bool.and_false]
  rw [aRefKeyMayBeTheName_at, c]
  refine wpAny_updatePart D ?_
  refine wpAny_bind (wpAny_lookBehind D' (pastItsLine_dict (by rw [List.size_toArray, sizeLine_eq]; omega)) ?_)
  exact wpAny_pure (h _ D' fun b o nb g => (Heap.get?_update_other _ _ (Ne.symm nb)).trans g)

noncomputable def setA (H : AH) (o : AV) (i : Nat) (v : AV) : Option AH := match attrsOf H o with
  | some (d, fs) => if fs.length ≤ 100 then some (H.set d (.dict (put i v fs))) else Option.none
  | Option.none => Option.none
theorem putL_len (name : Str) (hsh : Int) (key v : Value) : ∀ es : List DictEntry, (putL name hsh key v es).length ≤ es.length + 1
  | [] => by simp [putL]
  | e :: r => by
    unfold putL
    split
    · simp
    · have := putL_len name hsh key v r
      simp only [List.length_cons]; omega
theorem setAttr_ok {A : Around} {ρ : List Addr} {H H' : AH} {o v : AV} {r x : Value} {i : Nat} {s : Shared} {Q : Unit → Shared → Prop} {E : Value → Shared → Prop} (W : Wd w base)
    (P : HeapOk w base ρ H s.heap) (lt : i < 86) (e : setA H o i v = some H') (a : AVis s.heap ρ o x) (b : AVis s.heap ρ v r)
    (q : ∀ h' tk, Step ρ s.heap ρ h' → HeapOk w base ρ H' h' → Q () { s with heap := h', toks := tk }) :
    wpAny (model PG w) A (setAttr x (nm i) r) Q E s := by
  unfold setA at e
  split at e
  · rename_i d fs h1
    split at e
    · rename_i h2
      cases e
      obtain ⟨C, y, dx, es, n, ok, rfl, hdx, en, I⟩ := attrs_inst P h1 a
      have c := okC_cls ok w.params
      have g := ent_get lt en
      have hl : (getL (nm i) es).isSome = true := by
        split at g
        · obtain ⟨r, hg, _⟩ := g; rw [hg]; rfl
        · rw [g]; rfl
      have ht : takerIn (hd.heap_39 w.params) C (nm i) = some none := by unfold takerIn; rw [c.attr i lt]; rfl
      refine set_plain (W.X.keeps P.stay) I c.seta (osa_upd (s := { s with toks := s.toks + 1 }) (W.X.keeps P.stay) I c.over ht c.hasD hl ?_ fun h' g1 g2 => ?_)
      · have := putL_len (nm i) (PyData.keyHash w.params (nm i)) (.str (nm i) (s.toks + 1)) r es
        have := ent_len en
        show (putL (nm i) (PyData.keyHash w.params (nm i)) (.str (nm i) (s.toks + 1)) r es).length ≤ 1000
        omega
      · have pl : Plain s.heap h' := P.plain fun b o g nb => g2 b o (fun z => nb (z ▸ List.mem_of_getElem? hdx)) g
        exact q h' _ (Step.upd hdx g2) (P.upd hdx g2 ⟨_, _, g1, EntAll.mono pl ⟨[], by simp⟩ (ent_put lt b en)⟩)
    · cases e
  · cases e
end
end Mine
end
/-! part D4 -/
section
open PySem PySem.W PyProof.Rows
set_option maxRecDepth 100000
set_option linter.unusedVariables false
namespace Mine
section
variable {w : World} {base : Heap} {k : Nat} {env : Env}

/-! arguments, displays -/
noncomputable abbrev LD := AS → AH → Option (List AV × AH)
noncomputable def DenL (w : World) (base : Heap) (k : Nat) (env : Env) (es : List Expr) (f : LD) : Prop :=
  ∀ ⦃A : Around⦄ ⦃fs : List Env⦄ ⦃σ : AS⦄ ⦃ρ : List Addr⦄ ⦃H : AH⦄ ⦃v : List AV⦄ ⦃H' : AH⦄ ⦃s : Shared⦄ ⦃Q : List Value → Shared → Prop⦄ ⦃E : Value → Shared → Prop⦄ ⦃pos : Pos⦄,
    Wd w base → Ax A fs k → Inv w base env fs σ ρ H s.heap → f σ H = some (v, H') →
    (∀ ρ' h' tk r, Step ρ s.heap ρ' h' → HeapOk w base ρ' H' h' → AVall h' ρ' v r → Q r { s with heap := h', toks := tk }) →
    wpAny (model PG w) A (spliced (backTo pos (starEach es env))) Q E s
noncomputable def lNil : LD := fun _ H => some ([], H)
noncomputable def lCons (f : ED) (g : LD) : LD := fun σ H => match f σ H with
  | some (v, H₁) => (match g σ H₁ with | some (vs, H₂) => some (v :: vs, H₂) | Option.none => Option.none)
  | Option.none => Option.none
theorem lNil_ok : DenL w base k env [] lNil := by
  intro A fs σ ρ H v H' s Q E pos W a I e q
  cases e
  exact Calls.spliced_nil (q ρ s.heap s.toks _ (.refl ..) I.hp .nil)
theorem lCons_ok {e : Expr} {es : List Expr} {f : ED} {g : LD} (hf : DenE w base k env e f) (hg : DenL w base k env es g) (he : starEach (e :: es) env = (false, eval e env) :: starEach es env) :
    DenL w base k env (e :: es) (lCons f g) := by
  intro A fs σ ρ H v H' s Q E pos W a I e q
  unfold lCons at e
  split at e
  · rename_i v₁ H₁ h1
    split at e
    · rename_i vs H₂ h2
      cases e
      refine spliced_more (hf W a I h1 fun ρ₁ g₁ t₁ r₁ S₁ P₁ v₁ => hg W a (I.next S₁ P₁) h2 fun ρ₂ g₂ t₂ r₂ S₂ P₂ v₂ => ?_) he
      exact q ρ₂ g₂ _ _ (S₁.trans S₂) P₂ (.cons (v₁.mono (S₂.plain P₁) S₂.pre) v₂)
    · cases e
  · cases e

theorem size_none (h : Heap) : h.get? h.objs.size = none := Heap.get?_none_of_le (Nat.le_refl _)
noncomputable def dTup (f : LD) : ED := fun σ H => match f σ H with | some (vs, H') => if vs.length ≤ 1000 then some (.tup vs, H') else Option.none | Option.none => Option.none
theorem dTup_ok {es : List Expr} {f : LD} {kk : Nat} {p : Pos} (hf : DenL w base k env es f) : DenE w base k env (.Tuple es kk p) (dTup f) := by
  intro A fs σ ρ H v H' s Q E W a I e q
  unfold dTup at e
  split at e
  · rename_i vs H₁ h1
    split at e
    · rename_i hl
      cases e
      refine Tuple_ (hf W a I h1 fun ρ₁ g₁ t₁ r₁ S₁ P₁ v₁ => wpAny_newTuple ?_ (by rw [v₁.len, sizeLine_eq]; omega))
      have kp : ∀ b o, g₁.get? b = some o → (g₁.push { cls := .type "tuple", data := .seq r₁.toArray }).get? b = some o := fun b o g => Heap.get?_push_of_some _ g
      refine q ρ₁ _ _ _ (S₁.trans (Step.keeps kp)) (P₁.keeps kp) ?_
      unfold AVis
      exact ⟨_, _, _, _, rfl, Heap.get?_push_size _ rfl, rfl, rfl, v₁.mono (fun b o g _ => kp b o g) ⟨[], by simp⟩⟩
    · cases e
  · cases e
noncomputable def dList (f : LD) : ED := fun σ H => match f σ H with | some (vs, H') => if vs.length ≤ 1000 then some (.ref H'.length, H' ++ [.list vs]) else Option.none | Option.none => Option.none
theorem newObj_ok {ρ : List Addr} {H : AH} {h : Heap} {o : Obj} {ao : AO} (P : HeapOk w base ρ H h) (big : base.objs.size ≤ h.objs.size) (n : ObjAt w (h.push o) (ρ ++ [h.objs.size]) h.objs.size ao) :
    Step ρ h (ρ ++ [h.objs.size]) (h.push o) ∧ HeapOk w base (ρ ++ [h.objs.size]) (H ++ [ao]) (h.push o) ∧ AVis (h.push o) (ρ ++ [h.objs.size]) (.ref H.length) (.ref h.objs.size) := by
  have kp : ∀ b o', h.get? b = some o' → (h.push o).get? b = some o' := fun b o' g => Heap.get?_push_of_some _ g
  refine ⟨Step.add (size_none h) kp, P.add (size_none h) big kp n, ?_⟩
  unfold AVis
  exact ⟨_, by rw [← P.len]; simp, rfl⟩
theorem dList_ok {es : List Expr} {f : LD} {p : Pos} (hf : DenL w base k env es f) : DenE w base k env (.List es p) (dList f) := by
  intro A fs σ ρ H v H' s Q E W a I e q
  unfold dList at e
  split at e
  · rename_i vs H₁ h1
    split at e
    · rename_i hl
      cases e
      refine List_ (hf W a I h1 fun ρ₁ g₁ t₁ r₁ S₁ P₁ v₁ => wpAny_newList ?_ (by rw [v₁.len, sizeLine_eq]; omega))
      obtain ⟨S₂, P₂, v₂⟩ := newObj_ok (o := { cls := .type "list", data := .seq r₁.toArray }) (ao := .list vs) P₁ (I.next S₁ P₁).fok.big
        ⟨r₁.toArray, ⟨_, Heap.get?_push_size _ rfl⟩, v₁.mono (fun b o g _ => Heap.get?_push_of_some _ g) ⟨_, rfl⟩⟩
      exact q _ _ _ _ (S₁.trans S₂) P₂ v₂
    · cases e
  · cases e

/-! items -/
noncomputable def iOk (i : Int) : Bool := decide (-(4611686018427387904) ≤ i ∧ i < 4611686018427387904)
noncomputable def idx? (l : List AV) (i : Int) : Option AV := if iOk i then (if 0 ≤ i then l[i.toNat]? else if 0 ≤ i + l.length then l[(i + l.length).toNat]? else Option.none) else Option.none
noncomputable def seqOf (H : AH) : AV → Option (List AV)
  | .ref j => (match H[j]? with | some (.list l) => some l | _ => Option.none)
  | .tup l => some l
  | _ => Option.none
noncomputable def itemOf (H : AH) (o i : AV) : Option AV := match o, i with
  | .ref j, .int i => (match H[j]? with | some (.list l) => idx? l i | _ => Option.none)
  | .tup l, .int i => idx? l i
  | _, _ => Option.none
theorem seqIndex_of {l : List AV} {i : Int} {v : AV} {n : Nat} (e : idx? l i = some v) (hn : n = l.length) : ∃ j, seqIndex? i n = some j ∧ l[j]? = some v := by
  subst hn
  unfold idx? at e
  split at e
  · unfold seqIndex?
    split at e
    · rename_i h0
      have lt : i.toNat < l.length := (List.getElem?_eq_some_iff.mp e).1
      refine ⟨i.toNat, ?_, e⟩
      have h2 : ¬ i < 0 := by omega
      have h3 : i < (l.length : Int) := by omega
      simp [h2, h0, h3]
    · rename_i h0
      split at e
      · rename_i h1
        have lt : (i + l.length).toNat < l.length := (List.getElem?_eq_some_iff.mp e).1
        refine ⟨(i + l.length).toNat, ?_, e⟩
        have h2 : i < 0 := by omega
        have h3 : i + (l.length : Int) < (l.length : Int) := by omega
        simp [h2, h1, h3]
      · cases e
  · cases e
theorem getItem_ok {A : Around} {ρ : List Addr} {H : AH} {o i v : AV} {r x : Value} {s : Shared} {Q : Value → Shared → Prop} {E : Value → Shared → Prop}
    (P : HeapOk w base ρ H s.heap) (e : itemOf H o i = some v) (a : AVis s.heap ρ o r) (b : AVis s.heap ρ i x) (q : ∀ y, AVis s.heap ρ v y → Q y s) :
    wpAny (model PG w) A (getItem r x) Q E s ∧ ∃ T id, s.TypeIs r T ∧ typeLookup (.type T) "__getitem__" = pure (some (.builtin id)) := by
  unfold itemOf at e
  split at e
  · rename_i j i'
    split at e
    · rename_i l hj
      unfold AVis at a b
      obtain ⟨c, hc, rfl⟩ := a
      obtain ⟨t, rfl⟩ := b
      obtain ⟨ws, hp, al⟩ := P.at' j c _ hc hj
      have hl := hp.isList
      have ln : ws.size = l.length := by rw [← al.len]; simp
      have ok : iOk i' = true := by unfold idx? at e; split at e <;> first | assumption | cases e
      have ok' := of_decide_eq_true ok
      refine ⟨?_, _, _, hl.typeIs, slot_list_getitem.lookup⟩
      unfold idx? at e
      rw [if_pos ok] at e
      split at e
      · rename_i h0
        obtain ⟨y, hy, av⟩ := al.get e
        exact wpAny_getItem_list hl h0 (by omega) (by simpa using hy) (q y av)
      · rename_i h0
        split at e
        · rename_i h1
          obtain ⟨y, hy, av⟩ := al.get e
          exact wpAny_getItem_list_neg hl (by omega) (by omega) (by omega) (by rw [ln]; simpa using hy) (q y av)
        · cases e
    · cases e
  · rename_i l i'
    unfold AVis at a b
    obtain ⟨c, o, n, ws, rfl, hc, hcl, hd, al⟩ := a
    obtain ⟨t, rfl⟩ := b
    have ht : IsTup s.heap c ws := ⟨o, hc, hcl, n, hd⟩
    have ln : ws.size = l.length := by rw [← al.len]; simp
    have ok : iOk i' = true := by unfold idx? at e; split at e <;> first | assumption | cases e
    have ok' := of_decide_eq_true ok
    obtain ⟨j, hj, hv⟩ := seqIndex_of e ln
    obtain ⟨y, hy, av⟩ := al.get hv
    exact ⟨PyProof.Rows.getItem_tuple ht (by omega) (by omega) hj (by simpa using hy) (q y av), _, _, ht.typeIs, slot_tuple_getitem.lookup⟩
  · cases e
noncomputable def dItem (f g : ED) : ED := fun σ H => match f σ H with
  | some (o, H₁) => (match g σ H₁ with
    | some (i, H₂) => (match itemOf H₂ o i with | some v => some (v, H₂) | Option.none => Option.none)
    | Option.none => Option.none)
  | Option.none => Option.none
theorem dItem_ok {e i : Expr} {f g : ED} {p : Pos} (hf : DenE w base k env e f) (hg : DenE w base k env i g) (hs : ∀ o x, subscripted i false o x = operate [o, x] (getItem o x)) :
    DenE w base k env (.Subscript e i p) (dItem f g) := by
  intro A fs σ ρ H v H' s Q E W a I e q
  unfold dItem at e
  split at e
  · rename_i o H₁ h1
    split at e
    · rename_i x H₂ h2
      split at e
      · rename_i v' h3
        cases e
        refine Subscript_ (hf W a I h1 fun ρ₁ g₁ t₁ r₁ S₁ P₁ v₁ => hg W a (I.next S₁ P₁) h2 fun ρ₂ g₂ t₂ r₂ S₂ P₂ v₂ => ?_)
        obtain ⟨z, T, id, hT, hl⟩ := getItem_ok (A := A) (E := E) (s := { s with heap := g₂, toks := t₂ }) P₂ h3 (v₁.mono (S₂.plain P₁) S₂.pre) v₂ fun y av => q ρ₂ g₂ t₂ y (S₁.trans S₂) P₂ av
        exact tail_any hT hl z (hs _ _)
      · cases e
    · cases e
  · cases e

/-- a dict's item by a written key -/
noncomputable def mapOf (H : AH) : AV → Option (Nat × List (Nat × AV))
  | .ref j => (match H[j]? with | some (.map fs) => some (j, fs) | _ => Option.none)
  | _ => Option.none
noncomputable def dKey (f : ED) (i : Nat) : ED := fun σ H => match f σ H with
  | some (o, H₁) => (match mapOf H₁ o with | some (_, fs) => (match lk i fs with | some v => some (v, H₁) | Option.none => Option.none) | Option.none => Option.none)
  | Option.none => Option.none
theorem mapOf_at {H : AH} {o : AV} {j : Nat} {fs : List (Nat × AV)} (e : mapOf H o = some (j, fs)) : o = .ref j ∧ H[j]? = some (.map fs) := by
  unfold mapOf at e
  split at e
  · split at e
    · cases e; exact ⟨rfl, ‹_›⟩
    · cases e
  · cases e
theorem getKey_ok {A : Around} {ρ : List Addr} {H : AH} {o v : AV} {j i : Nat} {fs : List (Nat × AV)} {t : Tok} {r : Value} {s : Shared} {Q : Value → Shared → Prop} {E : Value → Shared → Prop}
    (P : HeapOk w base ρ H s.heap) (e : mapOf H o = some (j, fs)) (el : lk i fs = some v) (a : AVis s.heap ρ o r) (q : ∀ y, AVis s.heap ρ v y → Q y { s with toks := s.toks + 1 }) :
    wpAny (model PG w) A (getItem r (.str (nm i) t)) Q E s ∧ ∃ T id, s.TypeIs r T ∧ typeLookup (.type T) "__getitem__" = pure (some (.builtin id)) := by
  obtain ⟨rfl, hj⟩ := mapOf_at e
  unfold AVis at a
  obtain ⟨b, hb, rfl⟩ := a
  obtain ⟨kvs, hd, _, m⟩ := P.at' j b _ hb hj
  obtain ⟨lt, y, hy, av⟩ := m i v el
  exact ⟨wpAny_getItem_of (knd := strKind PG w) (k := nm i) (by show (nm i == nm i) = true; simp) hd.mapOf hy (q y av), _, _, hd.typeIs, slot_dict_getitem.lookup⟩
theorem dKey_ok {e : Expr} {f : ED} (i : Nat) {x : Str} {kd : Nat} {p p' : Pos} (hx : x = nm i) (hf : DenE w base k env e f) : DenE w base k env (.Subscript e (.Constant (.str x) kd p') p) (dKey f i) := by
  intro A fs σ ρ H v H' s Q E W a I e q
  subst hx
  unfold dKey at e
  split at e
  · rename_i o H₁ h1
    split at e
    · rename_i j fs' h2
      split at e
      · rename_i v' h3
        cases e
        refine Subscript_ (hf W a I h1 fun ρ₁ g₁ t₁ r₁ S₁ P₁ v₁ => Calls.Constant_str ?_)
        obtain ⟨z, T, id, hT, hl⟩ := getKey_ok (A := A) (E := E) (s := { s with heap := g₁, toks := t₁ + 1 }) (t := t₁) P₁ h2 h3 v₁ fun y av => q ρ₁ g₁ _ y S₁ P₁ av
        exact tail_any hT hl z rfl
      · cases e
    · cases e
  · cases e

/-! list operators -/
theorem foldl_app (l : List (Array Value)) : ∀ acc : Array Value, (List.foldl (fun x1 x2 => x1 ++ x2) acc l).toList = acc.toList ++ (l.map Array.toList).flatten := by
  induction l with
  | nil => intro acc; simp
  | cons a r ih => intro acc; rw [List.foldl_cons, ih]; simp
theorem AVall.rep {h : Heap} {ρ : List Addr} {l : List AV} {ws : List Value} (x : AVall h ρ l ws) : ∀ n, AVall h ρ (List.replicate n l).flatten (List.replicate n ws).flatten
  | 0 => .nil
  | n + 1 => by rw [List.replicate_succ, List.replicate_succ, List.flatten_cons, List.flatten_cons]; exact x.append (x.rep n)
noncomputable def dRep (f g : ED) : ED := fun σ H => match f σ H with
  | some (.ref j, H₁) => (match g σ H₁ with
    | some (.int n, H₂) => (match H₂[j]? with
      | some (.list l) => if 0 ≤ n ∧ n ≤ 1000 ∧ l.length ≤ 1000 then some (.ref H₂.length, H₂ ++ [.list (List.replicate n.toNat l).flatten]) else Option.none
      | _ => Option.none)
    | _ => Option.none)
  | _ => Option.none
theorem dRep_ok {e i : Expr} {f g : ED} {p : Pos} (hf : DenE w base k env e f) (hg : DenE w base k env i g) : DenE w base k env (.BinOp e .Mult i p) (dRep f g) := by
  intro A fs σ ρ H v H' s Q E W a I e q
  unfold dRep at e
  split at e
  · rename_i j H₁ h1
    split at e
    · rename_i n H₂ h2
      split at e
      · rename_i l hj
        split at e
        · rename_i hn
          cases e
          refine wpAny_BinOp (hf W a I h1 fun ρ₁ g₁ t₁ r₁ S₁ P₁ v₁ => hg W a (I.next S₁ P₁) h2 fun ρ₂ g₂ t₂ r₂ S₂ P₂ v₂ => ?_)
          have v₁' := v₁.mono (S₂.plain P₁) S₂.pre
          unfold AVis at v₁' v₂
          obtain ⟨c, hc, rfl⟩ := v₁'
          obtain ⟨t, rfl⟩ := v₂
          obtain ⟨ws, ⟨nn, ho⟩, al⟩ := P₂.at' j c _ hc hj
          have ln : ws.size = l.length := by rw [← al.len]; simp
          have big := (I.next (S₁.trans S₂) P₂).fok.big
          have hz : ws.size * n.toNat ≤ 1000 * 1000 := Nat.mul_le_mul (by omega) (by omega)
          refine wpAny_binaryOp_repeat_ref (T := "list") (U := "int") (by decide) ⟨_, ho, rfl⟩ (fun s' => typeIs_int s' n t) noFill_list_mul F.fills_int_mul F.slot_int_rmul repeat_list F.slot_int_index.lookup
            (call_meets F.slot_int_rmul (typeIs_int _ n t) F.entry_int_rmul (F.args_int_rmul_2 _ _) (int___rmul___int_list n t c ws nn)
              ⟨ho, rfl, ⟨_, ho, rfl⟩, call_meets F.slot_list_mul ⟨_, ho, rfl⟩ F.entry_list_mul (F.args_list_mul_2 _ _)
                (AutoListH.list___mul___list_int_3 c ws nn n t (by simp [Builtin.List.listFitsIndex]; omega) (by omega) (by simp [Builtin.List.listTooLong, sizeLine]; omega)) ⟨ho, ?_⟩⟩)
          have al2 : AVall (g₂.push { cls := .type "list", data := .seq (List.foldl (fun x1 x2 => x1 ++ x2) #[] (List.replicate (if ws.isEmpty = true then 0 else n.toNat) ws)) }) (ρ₂ ++ [g₂.objs.size]) (List.replicate n.toNat l).flatten (List.foldl (fun x1 x2 => x1 ++ x2) #[] (List.replicate (if ws.isEmpty = true then 0 else n.toNat) ws)).toList := by
            have al' := al.mono (h' := g₂.push { cls := .type "list", data := .seq (List.foldl (fun x1 x2 => x1 ++ x2) #[] (List.replicate (if ws.isEmpty = true then 0 else n.toNat) ws)) }) (ρ' := ρ₂ ++ [g₂.objs.size]) (fun b o g _ => Heap.get?_push_of_some _ g) ⟨_, rfl⟩
            generalize g₂.push { cls := .type "list", data := .seq (List.foldl (fun x1 x2 => x1 ++ x2) #[] (List.replicate (if ws.isEmpty = true then 0 else n.toNat) ws)) } = hh at al' ⊢
            rw [foldl_app]
            by_cases he : ws.isEmpty = true
            · have : ws = #[] := by simpa using he
              subst this
              have : l = [] := by cases l with | nil => rfl | cons _ _ => simp at ln
              subst this
              simp [AVall]
            · rw [if_neg he]
              simp only [List.map_replicate, List.nil_append]
              exact al'.rep _
          obtain ⟨S₃, P₃, v₃⟩ := newObj_ok (o := { cls := .type "list", data := .seq (List.foldl (fun x1 x2 => x1 ++ x2) #[] (List.replicate (if ws.isEmpty = true then 0 else n.toNat) ws)) }) (ao := .list (List.replicate n.toNat l).flatten) P₂ big
            ⟨_, ⟨_, Heap.get?_push_size _ rfl⟩, al2⟩
          exact q _ _ _ _ ((S₁.trans S₂).trans S₃) P₃ v₃
        · cases e
      · cases e
    · cases e
  · cases e
noncomputable def dCat (f g : ED) : ED := fun σ H => match f σ H with
  | some (.ref i, H₁) => (match g σ H₁ with
    | some (.ref j, H₂) => (match H₂[i]?, H₂[j]? with
      | some (.list l), some (.list l') => if l.length ≤ 1000 ∧ l'.length ≤ 1000 then some (.ref H₂.length, H₂ ++ [.list (l ++ l')]) else Option.none
      | _, _ => Option.none)
    | _ => Option.none)
  | _ => Option.none
theorem dCat_ok {e i : Expr} {f g : ED} {p : Pos} (hf : DenE w base k env e f) (hg : DenE w base k env i g) : DenE w base k env (.BinOp e .Add i p) (dCat f g) := by
  intro A fs σ ρ H v H' s Q E W a I e q
  unfold dCat at e
  split at e
  · rename_i i H₁ h1
    split at e
    · rename_i j H₂ h2
      split at e
      · rename_i l l' hi hj
        split at e
        · rename_i hn
          cases e
          refine wpAny_BinOp (hf W a I h1 fun ρ₁ g₁ t₁ r₁ S₁ P₁ v₁ => hg W a (I.next S₁ P₁) h2 fun ρ₂ g₂ t₂ r₂ S₂ P₂ v₂ => ?_)
          have v₁' := v₁.mono (S₂.plain P₁) S₂.pre
          unfold AVis at v₁' v₂
          obtain ⟨c, hc, rfl⟩ := v₁'
          obtain ⟨d, hd, rfl⟩ := v₂
          obtain ⟨ws, ⟨nn, ho⟩, al⟩ := P₂.at' i c _ hc hi
          obtain ⟨ws', ⟨nn', ho'⟩, al'⟩ := P₂.at' j d _ hd hj
          have ln : ws.size = l.length := by rw [← al.len]; simp
          have ln' : ws'.size = l'.length := by rw [← al'.len]; simp
          have big := (I.next (S₁.trans S₂) P₂).fok.big
          refine concat_meets ⟨_, ho, rfl⟩ ⟨_, ho', rfl⟩ noFill_list_add seq_list_add PySem.F.slot_list_add PySem.F.entry_list_add (PySem.F.args_list_add_2 _ _) (list_addW c d ws ws' nn nn' none none #[] #[] (by rw [sizeLine_eq]; omega)) ⟨ho, ho', ?_⟩
          obtain ⟨S₃, P₃, v₃⟩ := newObj_ok (o := { cls := .type "list", data := .seq (ws ++ ws') }) (ao := .list (l ++ l')) P₂ big
            ⟨_, ⟨_, Heap.get?_push_size _ rfl⟩, by
              rw [Array.toList_append]
              exact (al.append al').mono (fun b o g _ => Heap.get?_push_of_some _ g) ⟨_, rfl⟩⟩
          exact q _ _ _ _ ((S₁.trans S₂).trans S₃) P₃ v₃
        · cases e
      · cases e
    · cases e
  · cases e

/-! lists of ints compared; in -/
noncomputable def intsOf : List AV → Option (List Int)
  | [] => some []
  | .int i :: r => (match intsOf r with | some l => some (i :: l) | Option.none => Option.none)
  | _ => Option.none
theorem intsOf_are {h : Heap} {ρ : List Addr} : ∀ {l : List AV} {ns : List Int} {ws : List Value}, intsOf l = some ns → AVall h ρ l ws → IntsAre ws ns
  | [], _, _, e, x => by cases e; unfold AVall at x; subst x; exact .nil
  | v :: r, _, _, e, x => by
    unfold intsOf at e
    split at e
    · rename_i q; cases q
    · rename_i i r' q
      cases q
      split at e
      · rename_i l hl
        cases e
        unfold AVall at x
        obtain ⟨w, r'', rfl, a, y⟩ := x
        unfold AVis at a
        obtain ⟨t, rfl⟩ := a
        exact .cons i t (intsOf_are hl y)
      · cases e
    · cases e
noncomputable def dEqL (f g : ED) : TD := fun σ H => match f σ H with
  | some (.ref i, H₁) => (match g σ H₁ with
    | some (.ref j, H₂) => (match H₂[i]?, H₂[j]? with
      | some (.list l), some (.list l') => (match intsOf l, intsOf l' with | some ns, some ms => some (decide (ns = ms), H₂) | _, _ => Option.none)
      | _, _ => Option.none)
    | _ => Option.none)
  | _ => Option.none
theorem eqL_ok {A : Around} {fs : List Env} {ρ : List Addr} {H : AH} {i j : Nat} {l l' : List AV} {ns ms : List Int} {r x : Value} {s : Shared} {E : Value → Shared → Prop} (a : Ax A fs k) (hk : 9 ≤ k)
    (P : HeapOk w base ρ H s.heap) (hi : H[i]? = some (.list l)) (hj : H[j]? = some (.list l')) (h1 : intsOf l = some ns) (h2 : intsOf l' = some ms) (u : AVis s.heap ρ (.ref i) r) (v : AVis s.heap ρ (.ref j) x) :
    (∀ Q : Value → Shared → Prop, Q (.bool (decide (ns = ms))) s → wpAny (model PG w) A (compareOp .Eq r x) Q E s) ∧ ∀ Q : Value → Shared → Prop, Q (.bool (!decide (ns = ms))) s → wpAny (model PG w) A (compareOp .NotEq r x) Q E s := by
  unfold AVis at u v
  obtain ⟨c, hc, rfl⟩ := u
  obtain ⟨d, hd, rfl⟩ := v
  obtain ⟨⟨ws⟩, hp, al⟩ := P.at' i c _ hc hi
  obtain ⟨⟨ws'⟩, hp', al'⟩ := P.at' j d _ hd hj
  have un := a.un
  exact ⟨fun Q q => eq_intsK hp.isList (intsOf_are h1 al) hp'.isList (intsOf_are h2 al') (by omega) q, fun Q q => ne_intsK hp.isList (intsOf_are h1 al) hp'.isList (intsOf_are h2 al') (by omega) q⟩
theorem dEqL_run {f g : ED} {σ : AS} {H : AH} {b : Bool} {H' : AH} (e : dEqL f g σ H = some (b, H')) : ∃ i j H₁ l l' ns ms, f σ H = some (.ref i, H₁) ∧ g σ H₁ = some (.ref j, H') ∧ H'[i]? = some (.list l) ∧ H'[j]? = some (.list l') ∧ intsOf l = some ns ∧ intsOf l' = some ms ∧ b = decide (ns = ms) := by
  unfold dEqL at e
  split at e
  · split at e
    · split at e
      · split at e
        · cases e
          exact ⟨_, _, _, _, _, _, _, ‹_›, ‹_›, ‹_›, ‹_›, ‹_›, ‹_›, rfl⟩
        · cases e
      · cases e
    · cases e
  · cases e
theorem dEqL_ok {l r : Expr} {f g : ED} {p : Pos} (hk : 9 ≤ k) (hf : DenE w base k env l f) (hg : DenE w base k env r g) (hm : behindInMarks .Eq r = false) : DenE w base k env (.Compare l [.Eq] [r] p) (dVal (dEqL f g)) := by
  intro A fs σ ρ H v H' s Q E W a I e q
  unfold dVal at e
  split at e
  · rename_i b H₁ h0
    cases e
    obtain ⟨i, j, H₂, l, l', ns, ms, h1, h2, hi, hj, h3, h4, rfl⟩ := dEqL_run h0
    refine wpAny_Compare1 (hf W a I h1 fun ρ₁ g₁ t₁ r₁ S₁ P₁ v₁ => hg W a (I.next S₁ P₁) h2 fun ρ₂ g₂ t₂ r₂ S₂ P₂ v₂ => ?_) hm
    exact (eqL_ok a hk (s := { s with heap := g₂, toks := t₂ }) P₂ hi hj h3 h4 (v₁.mono (S₂.plain P₁) S₂.pre) v₂).1 _ (q ρ₂ g₂ _ _ (S₁.trans S₂) P₂ (by unfold AVis; rfl))
  · cases e
theorem dNeL_ok {l r : Expr} {f g : ED} {p : Pos} (hk : 9 ≤ k) (hf : DenE w base k env l f) (hg : DenE w base k env r g) (hm : behindInMarks .NotEq r = false) : DenE w base k env (.Compare l [.NotEq] [r] p) (dVal (dNot (dEqL f g))) := by
  intro A fs σ ρ H v H' s Q E W a I e q
  unfold dVal dNot at e
  split at e
  · rename_i b H₁ h0
    cases e
    split at h0
    · rename_i b' H₃ h0'
      cases h0
      obtain ⟨i, j, H₂, l, l', ns, ms, h1, h2, hi, hj, h3, h4, rfl⟩ := dEqL_run h0'
      refine wpAny_Compare1 (hf W a I h1 fun ρ₁ g₁ t₁ r₁ S₁ P₁ v₁ => hg W a (I.next S₁ P₁) h2 fun ρ₂ g₂ t₂ r₂ S₂ P₂ v₂ => ?_) hm
      exact (eqL_ok a hk (s := { s with heap := g₂, toks := t₂ }) P₂ hi hj h3 h4 (v₁.mono (S₂.plain P₁) S₂.pre) v₂).2 _ (q ρ₂ g₂ _ _ (S₁.trans S₂) P₂ (by unfold AVis; rfl))
    · cases h0
  · cases e
theorem tNeL_ok {l r : Expr} {f g : ED} {p : Pos} (hk : 9 ≤ k) (hf : DenE w base k env l f) (hg : DenE w base k env r g) (hm : behindInMarks .NotEq r = false) : DenT w base k env (.Compare l [.NotEq] [r] p) (dNot (dEqL f g)) := by
  intro A fs σ ρ H v H' s Q E W a I e q
  unfold dNot at e
  split at e
  · rename_i b' H₃ h0'
    cases e
    obtain ⟨i, j, H₂, l, l', ns, ms, h1, h2, hi, hj, h3, h4, rfl⟩ := dEqL_run h0'
    refine wpAny_isTrue_Compare1 (hf W a I h1 fun ρ₁ g₁ t₁ r₁ S₁ P₁ v₁ => hg W a (I.next S₁ P₁) h2 fun ρ₂ g₂ t₂ r₂ S₂ P₂ v₂ => ?_) hm
    exact (eqL_ok a hk (s := { s with heap := g₂, toks := t₂ }) P₂ hi hj h3 h4 (v₁.mono (S₂.plain P₁) S₂.pre) v₂).2 _ (wpAny_truthy_bool (q ρ₂ g₂ _ (S₁.trans S₂) P₂))
  · cases e
/-- an int in a list or a tuple of ints -/
noncomputable def dIn (f g : ED) : TD := fun σ H => match f σ H with
  | some (.int x, H₁) => (match g σ H₁ with
    | some (o, H₂) => (match seqOf H₂ o with
      | some l => (match intsOf l with | some ns => some (ns.any (· == x), H₂) | Option.none => Option.none)
      | Option.none => Option.none)
    | Option.none => Option.none)
  | _ => Option.none
theorem dIn_run {f g : ED} {σ : AS} {H : AH} {b : Bool} {H' : AH} (e : dIn f g σ H = some (b, H')) : ∃ x o H₁ l ns, f σ H = some (.int x, H₁) ∧ g σ H₁ = some (o, H') ∧ seqOf H' o = some l ∧ intsOf l = some ns ∧ b = ns.any (· == x) := by
  unfold dIn at e
  split at e
  · split at e
    · split at e
      · split at e
        · cases e
          exact ⟨_, _, _, _, _, ‹_›, ‹_›, ‹_›, ‹_›, rfl⟩
        · cases e
      · cases e
    · cases e
  · cases e
theorem in_ok {A : Around} {ρ : List Addr} {H : AH} {x : Int} {t : Tok} {o : AV} {l : List AV} {ns : List Int} {r : Value} {s : Shared} {E : Value → Shared → Prop}
    (P : HeapOk w base ρ H s.heap) (ho : seqOf H o = some l) (h1 : intsOf l = some ns) (u : AVis s.heap ρ o r) :
    (∀ Q : Value → Shared → Prop, Q (.bool (ns.any (· == x))) s → wpAny (model PG w) A (compareOp .In (.int x t) r) Q E s) ∧ ∀ Q : Value → Shared → Prop, Q (.bool (!ns.any (· == x))) s → wpAny (model PG w) A (compareOp .NotIn (.int x t) r) Q E s := by
  unfold seqOf at ho
  split at ho
  · rename_i j
    split at ho
    · rename_i l' hj
      cases ho
      unfold AVis at u
      obtain ⟨c, hc, rfl⟩ := u
      obtain ⟨⟨ws⟩, hp, al⟩ := P.at' j c _ hc hj
      have ia := intsOf_are h1 al
      exact ⟨fun Q q => in_list_ints hp.isList ia q, fun Q q => notin_list_ints hp.isList ia q⟩
    · cases ho
  · cases ho
    unfold AVis at u
    obtain ⟨c, o, n, ⟨ws⟩, rfl, hc, hcl, hd, al⟩ := u
    have ia := intsOf_are h1 al
    have ht : s.heap.IsTuple c ws.toArray := ⟨o, hc, hcl, n, hd⟩
    have e : ws.toArray.any (isInt x) = ns.any (· == x) := by
      rw [← Array.any_toList]
      exact any_isInt x ia
    obtain ⟨⟨cls, dd, data, sl⟩, ho, hc, n, hd⟩ := id ht
    simp only at hc hd
    subst hc hd
    have he : ∀ y, y ∈ ws.toArray → SeqAt.EqAt A.in1 s y (.int x t) (isInt x y) := fun y hy => (eq_isInt x t ia y (by simpa using hy)).at A.in1 s
    exact ⟨fun Q q => SeqAt.in_tupleAt _ ht he (by rw [e]; exact q), fun Q q => SeqAt.notIn_tupleAt _ ht he (by rw [e]; exact q)⟩
  · cases ho
theorem tIn_ok {l r : Expr} {f g : ED} {p : Pos} (hf : DenE w base k env l f) (hg : DenE w base k env r g) (hm : behindInMarks .In r = false) : DenT w base k env (.Compare l [.In] [r] p) (dIn f g) := by
  intro A fs σ ρ H v H' s Q E W a I e q
  obtain ⟨x, o, H₂, l, ns, h1, h2, h3, h4, rfl⟩ := dIn_run e
  refine wpAny_isTrue_Compare1 (hf W a I h1 fun ρ₁ g₁ t₁ r₁ S₁ P₁ v₁ => hg W a (I.next S₁ P₁) h2 fun ρ₂ g₂ t₂ r₂ S₂ P₂ v₂ => ?_) hm
  unfold AVis at v₁
  obtain ⟨t, rfl⟩ := v₁
  exact (in_ok (s := { s with heap := g₂, toks := t₂ }) P₂ h3 h4 v₂).1 _ (wpAny_truthy_bool (q ρ₂ g₂ _ (S₁.trans S₂) P₂))
theorem tNotIn_ok {l r : Expr} {f g : ED} {p : Pos} (hf : DenE w base k env l f) (hg : DenE w base k env r g) (hm : behindInMarks .NotIn r = false) : DenT w base k env (.Compare l [.NotIn] [r] p) (dNot (dIn f g)) := by
  intro A fs σ ρ H v H' s Q E W a I e q
  unfold dNot at e
  split at e
  · rename_i b' H₃ h0'
    cases e
    obtain ⟨x, o, H₂, l, ns, h1, h2, h3, h4, rfl⟩ := dIn_run h0'
    refine wpAny_isTrue_Compare1 (hf W a I h1 fun ρ₁ g₁ t₁ r₁ S₁ P₁ v₁ => hg W a (I.next S₁ P₁) h2 fun ρ₂ g₂ t₂ r₂ S₂ P₂ v₂ => ?_) hm
    unfold AVis at v₁
    obtain ⟨t, rfl⟩ := v₁
    exact (in_ok (s := { s with heap := g₂, toks := t₂ }) P₂ h3 h4 v₂).2 _ (wpAny_truthy_bool (q ρ₂ g₂ _ (S₁.trans S₂) P₂))
  · cases e
theorem dIn_ok {l r : Expr} {f g : ED} {p : Pos} (hf : DenE w base k env l f) (hg : DenE w base k env r g) (hm : behindInMarks .In r = false) : DenE w base k env (.Compare l [.In] [r] p) (dVal (dIn f g)) := by
  intro A fs σ ρ H v H' s Q E W a I e q
  unfold dVal at e
  split at e
  · rename_i b' H₃ h0'
    cases e
    obtain ⟨x, o, H₂, l, ns, h1, h2, h3, h4, rfl⟩ := dIn_run h0'
    refine wpAny_Compare1 (hf W a I h1 fun ρ₁ g₁ t₁ r₁ S₁ P₁ v₁ => hg W a (I.next S₁ P₁) h2 fun ρ₂ g₂ t₂ r₂ S₂ P₂ v₂ => ?_) hm
    unfold AVis at v₁
    obtain ⟨t, rfl⟩ := v₁
    exact (in_ok (s := { s with heap := g₂, toks := t₂ }) P₂ h3 h4 v₂).1 _ (q ρ₂ g₂ _ _ (S₁.trans S₂) P₂ (by unfold AVis; rfl))
  · cases e
end
end Mine
end
/-! part D5 -/
section
open PySem PySem.W PyProof.Rows
set_option maxRecDepth 100000
set_option linter.unusedVariables false
namespace Mine

/-! the thrown exception -/
noncomputable def Headed (h₀ h : Heap) (e : Addr) (vs : Array Value) : Prop :=
  ∃ T oT ts, vs[1]? = some (.ref T) ∧ T ≠ e ∧ h₀.get? T = none ∧ h.get? T = some oT ∧ oT.data = .fields ts ∧ 3 < ts.size
noncomputable def ExcAt (h₀ h : Heap) (e : Addr) (q : Int) (tr : Bool) : Prop :=
  h₀.get? e = none ∧ (∀ b, h.get? b = none → h₀.get? b = none) ∧ ∃ oe vs dx es n t, h.get? e = some oe ∧ oe.cls = .ref 72 ∧ oe.dict = some dx ∧ oe.data = .fields vs ∧ 1 < vs.size ∧ h₀.get? dx = none ∧ h.get? dx = some (dictOf es n) ∧ getL (nm 2) es = some (some (.int q t)) ∧
    (if tr = true then Headed h₀ h e vs else vs[1]? = some .none ∨ Headed h₀ h e vs)
theorem ExcAt.loose {h₀ h : Heap} {e : Addr} {q : Int} {tr : Bool} (x : ExcAt h₀ h e q tr) : ExcAt h₀ h e q false := by
  obtain ⟨a, dm, oe, vs, dx, es, n, t, b1, b2, b3, b4, b5, b6, b7, b8, b9⟩ := x
  refine ⟨a, dm, oe, vs, dx, es, n, t, b1, b2, b3, b4, b5, b6, b7, b8, ?_⟩
  rw [if_neg (by decide)]
  cases tr
  · rw [if_neg (by decide)] at b9; exact b9
  · rw [if_pos rfl] at b9; exact .inr b9
theorem ExcAt.base {h₀ h₁ h : Heap} {e : Addr} {q : Int} {tr : Bool} (x : ExcAt h₁ h e q tr) (d : ∀ b, h₁.get? b = none → h₀.get? b = none) : ExcAt h₀ h e q tr := by
  obtain ⟨a, dm, oe, vs, dx, es, n, t, b1, b2, b3, b4, b5, b6, b7, b8, b9⟩ := x
  have m : Headed h₁ h e vs → Headed h₀ h e vs := fun ⟨T, oT, ts, c1, c2, c3, c⟩ => ⟨T, oT, ts, c1, c2, d _ c3, c⟩
  refine ⟨d _ a, fun b n => d b (dm b n), oe, vs, dx, es, n, t, b1, b2, b3, b4, b5, d _ b6, b7, b8, ?_⟩
  cases tr
  · rw [if_neg (by decide)] at b9 ⊢; exact b9.imp id m
  · rw [if_pos rfl] at b9 ⊢; exact m b9

theorem mapFields_dict (o : Obj) (f) : (o.mapFields f).dict = o.dict := by
  unfold Obj.mapFields; split <;> rfl

/-- what was there at first stands, but for the frames' slots -/
noncomputable def KeptE (fs : List Env) (h₀ h h' : Heap) : Prop :=
  ∀ b o, h₀.get? b ≠ none → h.get? b = some o → (∃ sl, h'.get? b = some { o with slots := sl }) ∧ ((∀ f ∈ fs, f.frame ≠ some b) → h'.get? b = some o)
theorem KeptE.trans {fs : List Env} {h₀ h h' h'' : Heap} (x : KeptE fs h₀ h h') (y : KeptE fs h₀ h' h'') : KeptE fs h₀ h h'' := fun b o n e => by
  obtain ⟨⟨sl, a⟩, c⟩ := x b o n e
  obtain ⟨⟨sl', a'⟩, c'⟩ := y b _ n a
  exact ⟨⟨sl', a'⟩, fun f => (y b o n (c f)).2 f⟩
theorem KeptE.dom {fs : List Env} {h₀ h h' : Heap} (x : KeptE fs h₀ h h') (dm : ∀ b, h.get? b = none → h₀.get? b = none) : ∀ b, h'.get? b = none → h₀.get? b = none := fun b hb => by
  cases q : h₀.get? b with
  | none => rfl
  | some o =>
    cases z : h.get? b with
    | none => rw [dm b z] at q; cases q
    | some o' =>
      obtain ⟨⟨sl, a⟩, _⟩ := x b o' (by rw [q]; simp) z
      rw [hb] at a; cases a
noncomputable def ThereF (fs : List Env) (h₀ : Heap) : Prop := ∀ f ∈ fs, ∀ L, f.frame = some L → h₀.get? L ≠ none

section
variable {M : Model} {A : Around} {E : Value → Shared → Prop} {s : Shared} {base h₀ : Heap} {env : Env} {outer : List Env} {L e : Addr} {q : Int} {tr : Bool} {Q : Unit → Shared → Prop}

/-- one entry more at the head of the traceback -/
theorem entry_ok {head : Value} {hadNext : Bool} (hfr : A.frames = some (env :: outer)) (hl : s.heap.FunFrames base (env :: outer)) (th : ThereF (env :: outer) h₀) (hf : env.frame = some L)
    (x : ExcAt h₀ s.heap e q tr) (h : ∀ h', ExcAt h₀ h' e q true → KeptE (env :: outer) h₀ s.heap h' → h'.FunFrames base (env :: outer) → Q () { s with heap := h' }) :
    wpAny M A (do let a ← frameOf env; let pl ← entryPlaceOf L hadNext; let b ← EntryCells.newEntry head a .none (rawInt L) .none pl; setField (.ref e) 1 b) Q E s := by
  obtain ⟨en, dm, oe, vs, dx, es, n, t, b1, b2, b3, b4, b5, b6, b7, b8, b9⟩ := x
  have inF : ∀ b, b ∈ (env :: outer).filterMap (·.frame) → h₀.get? b ≠ none := fun b m => by
    obtain ⟨f, hf, e⟩ := List.mem_filterMap.mp m
    exact th f hf b e
  refine wpAny_bind (wpAny_frameOf_fun hfr hl hf fun h₁ hs₁ => ?_)
  refine wpAny_bind (wpAny_entryPlaceOf fun pl hpl => ?_)
  unfold EntryCells.newEntry newFields
  refine wpAny_bind (wpAny_newObj_type ?_ (hpl.sizeOk5 _ _ _ _ _))
  have he₁ : h₁.get? e = some oe := (hs₁.2.1 e fun m => inF e m en).trans b1
  have hx₁ : h₁.get? dx = some (dictOf es n) := (hs₁.2.1 dx fun m => inF dx m b6).trans b7
  have he₂ := Heap.get?_push_of_some (h := h₁) { cls := .type "traceback", dict := none, data := .fields ([head, .ref L, .none, rawInt L, .none] ++ (if pl.isEmpty then List.replicate 6 Value.none else pl)).toArray } he₁
  refine wpAny_setField he₂ b4 b5 ?_
  have hTe : h₁.objs.size ≠ e := Nat.ne_of_gt (Heap.lt_size he₁)
  have hd₃ := Obj.data_mapFields b4 (·.setIfInBounds 1 (Value.ref h₁.objs.size))
  have he₃ := Heap.get?_update_self (Obj.mapFields (·.setIfInBounds 1 (Value.ref h₁.objs.size))) he₂ (Obj.isFreed_of_fields hd₃)
  have hT₃ := (Heap.get?_update_other (h₁.push { cls := .type "traceback", dict := none, data := .fields ([head, .ref L, .none, rawInt L, .none] ++ (if pl.isEmpty then List.replicate 6 Value.none else pl)).toArray })
    (Obj.mapFields (·.setIfInBounds 1 (Value.ref h₁.objs.size))) (Ne.symm hTe)).trans (Heap.get?_push_size h₁ rfl)
  have keep : ∀ b o, b ≠ e → h₁.get? b = some o →
      ((h₁.push { cls := .type "traceback", dict := none, data := .fields ([head, .ref L, .none, rawInt L, .none] ++ (if pl.isEmpty then List.replicate 6 Value.none else pl)).toArray }).update e (Obj.mapFields (·.setIfInBounds 1 (Value.ref h₁.objs.size)))).get? b = some o :=
    fun b o hbe hb => by
      rw [Heap.get?_update_other _ _ (Ne.symm hbe)]
      exact Heap.get?_push_of_some _ hb
  have dxe : dx ≠ e := fun z => by
    subst z; rw [b1] at b7; cases b7; cases b4
  have T0 : h₀.get? h₁.objs.size = none := by
    cases hq : h₀.get? h₁.objs.size with
    | none => rfl
    | some o =>
      have nb : s.heap.get? h₁.objs.size ≠ none := fun z => by rw [dm _ z] at hq; cases hq
      cases hz : s.heap.get? h₁.objs.size with
      | none => exact absurd hz nb
      | some o' => obtain ⟨sl, hsl⟩ := hs₁.2.2 _ o' hz; exact absurd (Heap.lt_size hsl) (Nat.lt_irrefl _)
  have kp : KeptE (env :: outer) h₀ s.heap ((h₁.push { cls := .type "traceback", dict := none, data := .fields ([head, .ref L, .none, rawInt L, .none] ++ (if pl.isEmpty then List.replicate 6 Value.none else pl)).toArray }).update e (Obj.mapFields (·.setIfInBounds 1 (Value.ref h₁.objs.size)))) := fun b o nb hb => by
    have nbe : b ≠ e := fun z => nb (z ▸ en)
    obtain ⟨sl, hsl⟩ := hs₁.2.2 b o hb
    refine ⟨⟨sl, keep b _ nbe hsl⟩, fun nf => keep b o nbe ((hs₁.2.1 b fun m => ?_).trans hb)⟩
    obtain ⟨f, hf, e⟩ := List.mem_filterMap.mp m
    exact nf f hf e
  refine h _ ⟨en, fun b hb => ?_, _, _, dx, es, n, t, he₃, (Obj.cls_mapFields _ _).trans b2, (mapFields_dict _ _).trans b3, hd₃, by simpa using b5, b6, keep _ _ dxe hx₁, b8, ?_⟩ kp ?_
  · exact kp.dom dm b hb
  · rw [if_pos rfl]
    exact ⟨h₁.objs.size, _, _, by simp [b5], hTe, T0, hT₃, rfl, by simp⟩
  · refine hl.of_keeps fun b o hb hnf => ?_
    have nbe : b ≠ e := fun z => by subst z; rw [b1] at hb; cases hb; exact hnf vs b4
    obtain ⟨sl, hsl⟩ := hs₁.2.2 b o hb
    exact ⟨_, keep b _ nbe hsl, rfl⟩
theorem update_kept {fs : List Env} {h : Heap} {T : Addr} (f : Obj → Obj) (nT : h₀.get? T = none) : KeptE fs h₀ h (h.update T f) := fun b o nb hb => by
  have : T ≠ b := fun z => nb (z ▸ nT)
  have e := (Heap.get?_update_other h f this).trans hb
  exact ⟨⟨o.slots, e⟩, fun _ => e⟩
/-- a cell of the traceback's head is set -/
theorem head_set {h : Heap} {i : Nat} {v : Value} {T : Addr} {oT : Obj} {ts : Array Value} (x : ExcAt h₀ h e q true) (hT : ∀ oe vs, h.get? e = some oe → oe.data = .fields vs → vs[1]? = some (.ref T)) (gT : h.get? T = some oT) (dT : oT.data = .fields ts) :
    ExcAt h₀ (h.update T (Obj.mapFields (·.setIfInBounds i v))) e q true := by
  obtain ⟨en, dm, oe, vs, dx, es, n, t, b1, b2, b3, b4, b5, b6, b7, b8, b9⟩ := x
  rw [if_pos rfl] at b9
  obtain ⟨T', oT', ts', c1, c2, c3, c4, c5, c6⟩ := b9
  have := hT _ _ b1 b4
  rw [this] at c1
  cases c1
  rw [gT] at c4; cases c4
  rw [dT] at c5; cases c5
  have ne : T ≠ dx := fun z => by subst z; rw [gT] at b7; cases b7; cases dT
  have d' := Obj.data_mapFields dT (·.setIfInBounds i v)
  refine ⟨en, (update_kept (fs := []) _ c3).dom dm, oe, vs, dx, es, n, t, (Heap.get?_update_other _ _ c2).trans b1, b2, b3, b4, b5, b6, (Heap.get?_update_other _ _ ne).trans b7, b8, ?_⟩
  rw [if_pos rfl]
  exact ⟨T, _, _, this, c2, c3, Heap.get?_update_self _ gT (Obj.isFreed_of_fields d'), d', by simpa using c6⟩
theorem frames_upd {fs : List Env} {h : Heap} {T : Addr} {oT : Obj} {ts : Array Value} (f : Obj → Obj) (gT : h.get? T = some oT) (dT : oT.data = .fields ts) (hl : h.FunFrames base fs) : (h.update T f).FunFrames base fs :=
  hl.of_keeps fun b o hb hnf => ⟨o, (Heap.get?_update_other _ _ fun z => by subst z; rw [gT] at hb; cases hb; exact hnf _ dT).trans hb, rfl⟩

theorem note_ok (hfr : A.frames = some (env :: outer)) (hl : s.heap.FunFrames base (env :: outer)) (th : ThereF (env :: outer) h₀) (hf : env.frame = some L)
    (x : ExcAt h₀ s.heap e q tr) (h : ∀ h', ExcAt h₀ h' e q true → KeptE (env :: outer) h₀ s.heap h' → h'.FunFrames base (env :: outer) → Q () { s with heap := h' }) :
    wpAny M A (noteFrame (.ref e) env) Q E s := by
  obtain ⟨en, dm, oe, vs, dx, es, n, t, b1, b2, b3, b4, b5, b6, b7, b8, b9⟩ := x.loose
  rw [if_neg (by decide)] at b9
  unfold noteFrame
  simp only [hf]
  rcases b9 with h1 | hd
  · refine wpAny_bind (wpAny_field b1 b4 h1 ?_)
    rw [if_neg (by decide)]
    exact entry_ok hfr hl th hf x h
  · obtain ⟨T, oT, ts, c1, c2, c3, c4, c5, c6⟩ := id hd
    have xt : ExcAt h₀ s.heap e q true := ⟨en, dm, oe, vs, dx, es, n, t, b1, b2, b3, b4, b5, b6, b7, b8, by rw [if_pos rfl]; exact hd⟩
    refine wpAny_bind (wpAny_field b1 b4 c1 ?_)
    rw [if_pos (show (Value.ref T != Value.none) = true from by simp)]
    refine wpAny_bind (wpAny_field c4 c5 (Array.getElem?_eq_getElem c6) ?_)
    split
    · exact wpAny_pure (h _ xt (fun b o _ hb => ⟨⟨o.slots, hb⟩, fun _ => hb⟩) hl)
    · refine wpAny_bind (wpAny_setField c4 c5 c6 ?_)
      refine entry_ok (tr := true) hfr (frames_upd _ c4 c5 hl) th hf (head_set xt (fun oe' vs' g d => by rw [b1] at g; cases g; rw [b4] at d; cases d; exact c1) c4 c5) fun h' x' k' f' => h h' x' ((update_kept _ c3).trans k') f'
theorem flight_ok {f : Option Addr} (hl : s.heap.FunFrames base (env :: outer)) (x : ExcAt h₀ s.heap e q true)
    (h : ∀ h', ExcAt h₀ h' e q true → KeptE (env :: outer) h₀ s.heap h' → h'.FunFrames base (env :: outer) → Q () { s with heap := h' }) :
    wpAny M A (setFlight (.ref e) f) Q E s := by
  obtain ⟨en, dm, oe, vs, dx, es, n, t, b1, b2, b3, b4, b5, b6, b7, b8, b9⟩ := id x
  rw [if_pos rfl] at b9
  obtain ⟨T, oT, ts, c1, c2, c3, c4, c5, c6⟩ := b9
  unfold setFlight
  refine wpAny_bind (wpAny_field b1 b4 c1 ?_)
  rw [if_pos (show (Value.ref T != Value.none) = true from by simp)]
  refine wpAny_setField c4 c5 c6 (h _ (head_set x (fun oe' vs' g d => by rw [b1] at g; cases g; rw [b4] at d; cases d; exact c1) c4 c5) (update_kept _ c3) (frames_upd _ c4 c5 hl))
theorem leaving_ok (hfr : A.frames = some (env :: outer)) (hl : s.heap.FunFrames base (env :: outer)) (th : ThereF (env :: outer) h₀) (hf : env.frame = some L)
    (x : ExcAt h₀ s.heap e q tr) (h : ∀ h', ExcAt h₀ h' e q true → KeptE (env :: outer) h₀ s.heap h' → h'.FunFrames base (env :: outer) → Q () { s with heap := h' }) :
    wpAny M A (leaving env (.ref e)) Q E s := by
  unfold leaving
  exact wpAny_bind (note_ok hfr hl th hf x fun h₁ x₁ k₁ f₁ => flight_ok (s := { s with heap := h₁ }) f₁ x₁ fun h₂ x₂ k₂ f₂ => h h₂ x₂ (k₁.trans k₂) f₂)
theorem back_ok {E : Value → Shared → Prop} (hf : env.frame = some L) (hl : s.heap.FunFrames base (env :: outer)) (x : ExcAt h₀ s.heap e q true)
    (h : ∀ h', ExcAt h₀ h' e q true → KeptE (env :: outer) h₀ s.heap h' → h'.FunFrames base (env :: outer) → E (.ref e) { s with heap := h' }) : cameBackBy M A env E (.ref e) s := by
  unfold cameBackBy
  obtain ⟨en, dm, oe, vs, dx, es, n, t, b1, b2, b3, b4, b5, b6, b7, b8, b9⟩ := id x
  rw [if_pos rfl] at b9
  obtain ⟨T, oT, ts, c1, c2, c3, c4, c5, c6⟩ := b9
  refine wpAny_bind (wpAny_field b1 b4 c1 ?_)
  rw [if_neg (by simp)]
  exact flight_ok hl x h
end
end Mine
end
/-! part D6 -/
section
open PySem PySem.W PyProof.Rows
set_option maxRecDepth 100000
set_option linter.unusedVariables false
namespace Mine

/-! statements -/
inductive Oc where | next | cont | ret (v : AV) | exc (q : Int)
noncomputable abbrev SD := AS → AH → Option (Oc × AS × AH)
noncomputable def own (env : Env) (b : Addr) : Prop := b = env.locals ∨ ∃ y, env.kindOf y = some .cell ∧ env.cells.lookup y = some b
structure StepX (o : Addr → Prop) (ρ : List Addr) (h : Heap) (ρ' : List Addr) (h' : Heap) : Prop where
  pre : ∃ x, ρ' = ρ ++ x
  kept : ∀ b ob, h.get? b = some ob → b ∉ ρ → ¬ o b → h'.get? b = some ob
  new : ∀ a ∈ ρ', a ∉ ρ → h.get? a = none
theorem StepX.refl {o : Addr → Prop} (ρ : List Addr) (h : Heap) : StepX o ρ h ρ h := ⟨⟨[], by simp⟩, fun _ _ e _ _ => e, fun _ a b => absurd a b⟩
theorem Step.x {o : Addr → Prop} {ρ ρ' : List Addr} {h h' : Heap} (S : Step ρ h ρ' h') : StepX o ρ h ρ' h' := ⟨S.pre, fun b ob e n _ => S.kept b ob e n, S.new⟩
theorem StepX.trans {o : Addr → Prop} {ρ ρ₁ ρ₂ : List Addr} {h h₁ h₂ : Heap} (x : StepX o ρ h ρ₁ h₁) (y : StepX o ρ₁ h₁ ρ₂ h₂) (ho : ∀ a, o a → a ∉ ρ₂) : StepX o ρ h ρ₂ h₂ := by
  refine ⟨?_, fun b ob e n no => ?_, fun a m n => ?_⟩
  · obtain ⟨p, rfl⟩ := x.pre
    obtain ⟨q, rfl⟩ := y.pre
    exact ⟨p ++ q, by rw [List.append_assoc]⟩
  · refine y.kept b ob (x.kept b ob e n no) (fun m => ?_) no
    have := x.new b m n
    rw [e] at this; cases this
  · by_cases m₁ : a ∈ ρ₁
    · exact x.new a m₁ n
    · cases e : h.get? a with
      | none => rfl
      | some ob =>
        have := y.new a m m₁
        rw [x.kept a ob e n fun oa => ho a oa m] at this; cases this
structure StepE (base : Heap) (o : Addr → Prop) (fs : List Env) (ρ : List Addr) (h h' : Heap) : Prop where
  kept : ∀ b ob, h.get? b = some ob → b ∉ ρ → ¬ o b → (∃ sl, h'.get? b = some { ob with slots := sl }) ∧ ((∀ f ∈ fs, f.frame ≠ some b) → h'.get? b = some ob)
  stay : base.StaysIn h'
  frs : h'.FunFrames base fs
noncomputable def FlIs (h : Heap) (ρ : List Addr) : Oc → Flow → Prop
  | .next, f => f = .next
  | .cont, f => f = .cont
  | .ret v, f => ∃ r, f = .ret r ∧ AVis h ρ v r
  | .exc _, _ => False

/-- the statement's run is what f says -/
noncomputable def DenS (w : World) (base : Heap) (k : Nat) (env : Env) (m : Sem Flow) (f : SD) : Prop :=
  ∀ ⦃A : Around⦄ ⦃outer : List Env⦄ ⦃σ : AS⦄ ⦃ρ : List Addr⦄ ⦃H : AH⦄ ⦃oc : Oc⦄ ⦃σ' : AS⦄ ⦃H' : AH⦄ ⦃s : Shared⦄ ⦃Q : Flow → Shared → Prop⦄ ⦃E : Value → Shared → Prop⦄,
    Wd w base → Ax A (env :: outer) k → Inv w base env (env :: outer) σ ρ H s.heap → f σ H = some (oc, σ', H') →
    (∀ ρ' h' tk fl, StepX (own env) ρ s.heap ρ' h' → Inv w base env (env :: outer) σ' ρ' H' h' → FlIs h' ρ' oc fl → Q fl { s with heap := h', toks := tk }) →
    (∀ q h' tk e tr, oc = .exc q → StepE base (own env) (env :: outer) ρ s.heap h' → ExcAt s.heap h' e q tr → E (.ref e) { s with heap := h', toks := tk }) →
    wpAny (model PG w) A m Q E s

section
variable {w : World} {base h h' : Heap} {k : Nat} {env : Env} {outer fs : List Env} {σ : AS} {ρ ρ' : List Addr} {H : AH}

theorem Inv.ownN (I : Inv w base env fs σ ρ H h) : ∀ a, own env a → a ∉ ρ := fun a oa => by
  rcases oa with rfl | ⟨y, _, hc⟩
  · exact I.locF
  · exact (I.cells y a hc).1
theorem Inv.ownThere (I : Inv w base env fs σ ρ H h) : ∀ a, own env a → h.get? a ≠ none := fun a oa => by
  rcases oa with rfl | ⟨y, _, hc⟩
  · obtain ⟨m, ⟨oL, es, ep, gL, r⟩, hv⟩ := I.vars
    rw [gL]; simp
  · obtain ⟨_, _, _, o, v, g, _⟩ := I.cells y a hc
    rw [g]; simp
theorem HeapOk.there (P : HeapOk w base ρ H h) : ∀ a ∈ ρ, h.get? a ≠ none := fun a m => by
  obtain ⟨i, hi, e⟩ := List.getElem_of_mem m
  have hH : i < H.length := P.len ▸ hi
  have := P.at' i ρ[i] H[i] (List.getElem?_eq_getElem hi) (List.getElem?_eq_getElem hH)
  rw [e] at this
  generalize H[i] = ao at this
  cases ao with
  | list l => obtain ⟨ws, ⟨n, q⟩, _⟩ := this; rw [q]; simp
  | dict fs => obtain ⟨ws, n, q, _⟩ := this; rw [q]; simp
  | inst C d => obtain ⟨dx, _, q⟩ := this; rw [q]; simp
  | map fs => obtain ⟨kvs, ⟨o', es, ep, q, x, _⟩, _⟩ := this; rw [q]; simp
theorem StepX.dom {σ' : AS} {H' : AH} (S : StepX (own env) ρ h ρ' h') (I : Inv w base env fs σ' ρ' H' h') : ∀ b, h'.get? b = none → h.get? b = none := fun b n => by
  by_cases m : b ∈ ρ
  · obtain ⟨x, rfl⟩ := S.pre
    exact absurd n (I.hp.there b (List.mem_append_left _ m))
  · by_cases o : own env b
    · exact absurd n (I.ownThere b o)
    · cases e : h.get? b with
      | none => rfl
      | some ob => rw [S.kept b ob e m o] at n; cases n
theorem Step.dom {H' : AH} (S : Step ρ h ρ' h') (P : HeapOk w base ρ' H' h') : ∀ b, h'.get? b = none → h.get? b = none := fun b n => by
  by_cases m : b ∈ ρ
  · obtain ⟨x, rfl⟩ := S.pre
    exact absurd n (P.there b (List.mem_append_left _ m))
  · cases e : h.get? b with
    | none => rfl
    | some ob => rw [S.kept b ob e m] at n; cases n
theorem StepX.e {h'' : Heap} (S : StepX (own env) ρ h ρ' h') (x : StepE base (own env) fs ρ' h' h'') : StepE base (own env) fs ρ h h'' :=
  ⟨fun b ob e n no => x.kept b ob (S.kept b ob e n no) (fun m => by have := S.new b m n; rw [e] at this; cases this) no, x.stay, x.frs⟩

theorem funFrames_re : ∀ {fs : List Env}, h.FunFrames base fs → (∀ e ∈ fs, ∀ L, e.frame = some L → ∃ o, h'.get? L = some o ∧ ∀ vs, o.data ≠ .fields vs) → h'.FunFrames base fs
  | [], _, _ => trivial
  | _ :: _, x, k => by
    obtain ⟨a, ⟨L, o, f, n, g, d⟩, r⟩ := x
    obtain ⟨o', g', d'⟩ := k _ (.head _) L f
    exact ⟨a, ⟨L, o', f, n, g', d'⟩, funFrames_re r fun e m => k e (.tail _ m)⟩

/-- a name is set -/
theorem storeVar {A : Around} {i : Nat} {v : AV} {r : Value} {s : Shared} {Q : Unit → Shared → Prop} {E : Value → Shared → Prop} (I : Inv w base env fs σ ρ H s.heap)
    (hk : env.kindOf (nm i) = some .local ∨ (env.kindOf (nm i) = some .cell ∧ (env.cells.lookup (nm i)).isSome = true)) (lt : i < 86) (av : AVis s.heap ρ v r)
    (q : ∀ h' tk, StepX (own env) ρ s.heap ρ h' → Inv w base env fs (put i v σ) ρ H h' → Q () { s with heap := h', toks := tk }) : wpAny (model PG w) A (storeName env (nm i) r) Q E s := by
  obtain ⟨m, ns, hv⟩ := I.vars
  rcases hk with hk | ⟨hk, hc⟩
  · refine wpAny_storeName_local hk ns (fun h' ns' sb => ?_) (by rw [I.envk]; rfl)
    have kp : ∀ b o, b ≠ env.locals → s.heap.get? b = some o → h'.get? b = some o := fun b o nb e => (sb.2 b nb).trans e
    have pl : Plain s.heap h' := fun b o e c => kp b o (fun z => by
      subst z
      obtain ⟨oL, es, ep, gL, dL, _⟩ := ns
      rw [e] at gL; cases gL
      rcases c with ⟨_, ws, n, d⟩ | ⟨_, vs, d⟩ <;> rw [dL] at d <;> cases d) e
    refine q h' _ ⟨⟨[], by simp⟩, fun b ob e n no => kp b ob (fun z => no (.inl z)) e, fun _ a b => absurd a b⟩ ⟨?_, ?_, I.locF, I.locB, ?_, I.cinj, ?_, I.envk, I.envg, I.envb⟩
    · refine ⟨I.hp.len, I.hp.nodup, I.hp.fresh, fun b o e => kp b o (fun z => ?_) (I.hp.stay b o e), fun j a ao ea eh => (I.hp.at' j a ao ea eh).mono pl ⟨[], by simp⟩ fun o e => kp a o (fun z => I.locF (z ▸ List.mem_of_getElem? ea)) e⟩
      subst z
      exact absurd (Heap.lt_size e) (Nat.not_lt.mpr I.locB)
    · refine ⟨_, ns', fun j v' e => ?_⟩
      rw [lk_put] at e
      by_cases z : j = i
      · subst z
        rw [if_pos rfl] at e; cases e
        exact ⟨lt, r, av.mono pl ⟨[], by simp⟩, .inl ⟨hk, if_pos rfl⟩⟩
      · rw [if_neg z] at e
        obtain ⟨lt', r', av', u⟩ := hv j v' e
        refine ⟨lt', r', av'.mono pl ⟨[], by simp⟩, ?_⟩
        rcases u with ⟨u1, u2⟩ | ⟨u1, c, o, u2, u3, u4⟩
        · exact .inl ⟨u1, (if_neg fun z' => z (nm_inj lt' lt z')).trans u2⟩
        · exact .inr ⟨u1, c, o, u2, kp c o (I.cells _ _ u2).2.2.1 u3, u4⟩
    · intro y c cl
      obtain ⟨a, b, d, o, v', g, z⟩ := I.cells y c cl
      exact ⟨a, b, d, o, v', kp c o d g, z⟩
    · refine ⟨funFrames_re I.fok.frs fun e me L f => ?_, I.fok.frF, I.fok.frB, I.fok.ne⟩
      by_cases z : L = env.locals
      · subst z
        obtain ⟨oL, es, ep, gL, dL, _⟩ := ns'
        exact ⟨oL, gL, fun vs d => by rw [dL] at d; cases d⟩
      · obtain ⟨o, g, d⟩ := funFrames_get I.fok.frs e me L f
        exact ⟨o, kp L o z g, d⟩
  · obtain ⟨c, hc⟩ := Option.isSome_iff_exists.mp hc
    obtain ⟨c1, c2, c3, oc, v₀, c4, c5⟩ := I.cells _ _ hc
    refine wpAny_storeName_cell I.envk hk hc ⟨oc, c4, c5⟩ fun h' hn sb => ?_
    have kp : ∀ b o, b ≠ c → s.heap.get? b = some o → h'.get? b = some o := fun b o nb e => (sb.2 b nb).trans e
    have pl : Plain s.heap h' := fun b o e cc => kp b o (fun z => by
      subst z
      rw [e] at c4; cases c4
      rcases cc with ⟨_, ws, n, d⟩ | ⟨_, vs, d⟩ <;> rw [c5] at d <;> cases d) e
    obtain ⟨oc', g', d'⟩ := hn
    refine q h' s.toks ⟨⟨[], by simp⟩, fun b ob e n no => kp b ob (fun z => no (.inr ⟨_, hk, z ▸ hc⟩)) e, fun _ a b => absurd a b⟩ ⟨?_, ?_, I.locF, I.locB, ?_, I.cinj, ?_, I.envk, I.envg, I.envb⟩
    · refine ⟨I.hp.len, I.hp.nodup, I.hp.fresh, fun b o e => kp b o (fun z => ?_) (I.hp.stay b o e), fun j a ao ea eh => (I.hp.at' j a ao ea eh).mono pl ⟨[], by simp⟩ fun o e => kp a o (fun z => c1 (z ▸ List.mem_of_getElem? ea)) e⟩
      subst z
      exact absurd (Heap.lt_size e) (Nat.not_lt.mpr c2)
    · refine ⟨m, ns.sameBut sb (Ne.symm c3), fun j v' e => ?_⟩
      rw [lk_put] at e
      by_cases z : j = i
      · subst z
        rw [if_pos rfl] at e; cases e
        exact ⟨lt, r, av.mono pl ⟨[], by simp⟩, .inr ⟨.inl hk, c, oc', hc, g', d'⟩⟩
      · rw [if_neg z] at e
        obtain ⟨lt', r', av', u⟩ := hv j v' e
        refine ⟨lt', r', av'.mono pl ⟨[], by simp⟩, ?_⟩
        rcases u with ⟨u1, u2⟩ | ⟨u1, c', o, u2, u3, u4⟩
        · exact .inl ⟨u1, u2⟩
        · exact .inr ⟨u1, c', o, u2, kp c' o (fun z' => z (nm_inj lt' lt (I.cinj _ _ c (z' ▸ u2) hc))) u3, u4⟩
    · intro y c' cl
      obtain ⟨a, b, d, o, v', g, z⟩ := I.cells y c' cl
      by_cases e : c' = c
      · subst e
        exact ⟨a, b, d, oc', _, g', d'⟩
      · exact ⟨a, b, d, o, v', kp c' o e g, z⟩
    · refine ⟨funFrames_re I.fok.frs fun e me L f => ?_, I.fok.frF, I.fok.frB, I.fok.ne⟩
      obtain ⟨o, g, d⟩ := funFrames_get I.fok.frs e me L f
      by_cases z : L = c
      · subst z
        exact ⟨oc', g', fun vs d'' => by rw [d'] at d''; cases d''⟩
      · exact ⟨o, kp L o z g, d⟩

/-! blocks -/
noncomputable def bNil : SD := fun σ H => some (.next, σ, H)
noncomputable def bCons (f g : SD) : SD := fun σ H => match f σ H with
  | some (.next, σ₁, H₁) => g σ₁ H₁
  | r => r
theorem bNil_ok : DenS w base k env (execs [] env) bNil := by
  intro A outer σ ρ H oc σ' H' s Q E W a I e q qe
  cases e
  exact wpAny_execs_nil (q ρ s.heap s.toks _ (.refl ..) I rfl)
theorem bCons_ok {st : Stmt} {r : List Stmt} {f g : SD} (hf : DenS w base k env (exec st env) f) (hg : DenS w base k env (execs r env) g) : DenS w base k env (execs (st :: r) env) (bCons f g) := by
  intro A outer σ ρ H oc σ' H' s Q E W a I e q qe
  unfold bCons at e
  split at e
  · rename_i σ₁ H₁ h1
    refine wpAny_execs_cons (hf W a I h1 (fun ρ₁ g₁ t₁ fl S₁ I₁ hfl => ?_) fun _ _ _ _ _ z => by cases z)
    obtain rfl : fl = .next := hfl
    refine hg W a I₁ e (fun ρ₂ g₂ t₂ fl S₂ I₂ hfl => q ρ₂ g₂ _ _ (S₁.trans S₂ I₂.ownN) I₂ hfl) fun q' h' tk e' tr z1 z2 z3 => qe q' h' tk e' tr z1 (S₁.e z2) (z3.base (S₁.dom I₁))
  · rename_i hne
    refine wpAny_execs_cons (hf W a I e (fun ρ₁ g₁ t₁ fl S₁ I₁ hfl => ?_) qe)
    have := q ρ₁ g₁ t₁ fl S₁ I₁ hfl
    cases oc with
    | next => exact absurd e (hne _ _)
    | cont => obtain rfl : fl = .cont := hfl; exact this
    | ret v => obtain ⟨r, rfl, _⟩ := hfl; exact this
    | exc q => exact hfl.elim

noncomputable def sIf (t : TD) (f g : SD) : SD := fun σ H => match t σ H with
  | some (true, H₁) => f σ H₁
  | some (false, H₁) => g σ H₁
  | Option.none => Option.none
theorem sIf_ok {c : Expr} {x y : List Stmt} {t : TD} {f g : SD} {p : Pos} (ht : DenT w base k env c t) (hf : DenS w base k env (execs x env) f) (hg : DenS w base k env (execs y env) g) : DenS w base k env (exec (.If c x y p) env) (sIf t f g) := by
  intro A outer σ ρ H oc σ' H' s Q E W a I e q qe
  unfold sIf at e
  split at e
  · rename_i H₁ h1
    exact wpAny_If (ht W a I h1 fun ρ₁ g₁ t₁ S₁ P₁ => by
      rw [if_pos rfl]
      have I₁ := I.next S₁ P₁
      exact hf W a I₁ e (fun ρ₂ g₂ t₂ fl S₂ I₂ hfl => q ρ₂ g₂ _ _ ((Step.x S₁).trans S₂ I₂.ownN) I₂ hfl) fun q' h' tk e' tr z1 z2 z3 => qe q' h' tk e' tr z1 ((Step.x S₁).e z2) (z3.base (Step.dom S₁ P₁)))
  · rename_i H₁ h1
    exact wpAny_If (ht W a I h1 fun ρ₁ g₁ t₁ S₁ P₁ => by
      rw [if_neg Bool.false_ne_true]
      have I₁ := I.next S₁ P₁
      exact hg W a I₁ e (fun ρ₂ g₂ t₂ fl S₂ I₂ hfl => q ρ₂ g₂ _ _ ((Step.x S₁).trans S₂ I₂.ownN) I₂ hfl) fun q' h' tk e' tr z1 z2 z3 => qe q' h' tk e' tr z1 ((Step.x S₁).e z2) (z3.base (Step.dom S₁ P₁)))
  · cases e
noncomputable def sRet (f : ED) : SD := fun σ H => match f σ H with | some (v, H') => some (.ret v, σ, H') | Option.none => Option.none
theorem sRet_ok {c : Expr} {f : ED} {p : Pos} (hf : DenE w base k env c f) : DenS w base k env (exec (.Return (some c) p) env) (sRet f) := by
  intro A outer σ ρ H oc σ' H' s Q E W a I e q qe
  unfold sRet at e
  split at e
  · rename_i v H₁ h1
    cases e
    exact wpAny_Return_some (hf W a I h1 fun ρ₁ g₁ t₁ r₁ S₁ P₁ v₁ => q ρ₁ g₁ t₁ _ (Step.x S₁) (I.next S₁ P₁) ⟨_, rfl, v₁⟩)
  · cases e
noncomputable def sRet0 : SD := fun σ H => some (.ret .none, σ, H)
theorem sRet0_ok {p : Pos} : DenS w base k env (exec (.Return none p) env) sRet0 := by
  intro A outer σ ρ H oc σ' H' s Q E W a I e q qe
  cases e
  exact wpAny_Return_none (q ρ s.heap s.toks _ (.refl ..) I ⟨_, rfl, by unfold AVis; rfl⟩)
noncomputable def sCont : SD := fun σ H => some (.cont, σ, H)
theorem sCont_ok {p : Pos} : DenS w base k env (exec (.Continue p) env) sCont := by
  intro A outer σ ρ H oc σ' H' s Q E W a I e q qe
  cases e
  exact wpAny_Continue (q ρ s.heap s.toks _ (.refl ..) I rfl)
end
end Mine
end
/-! part D7 -/
section
open PySem PySem.W PyProof.Rows
set_option maxRecDepth 100000
set_option linter.unusedVariables false
namespace Mine

/-! targets -/
noncomputable abbrev GD := AV → AS → AH → Option (AS × AH)
noncomputable def DenG (w : World) (base : Heap) (k : Nat) (env : Env) (t : Expr) (g : GD) : Prop :=
  ∀ ⦃A : Around⦄ ⦃outer : List Env⦄ ⦃σ : AS⦄ ⦃ρ : List Addr⦄ ⦃H : AH⦄ ⦃v : AV⦄ ⦃r : Value⦄ ⦃σ' : AS⦄ ⦃H' : AH⦄ ⦃s : Shared⦄ ⦃Q : Unit → Shared → Prop⦄ ⦃E : Value → Shared → Prop⦄,
    Wd w base → Ax A (env :: outer) k → Inv w base env (env :: outer) σ ρ H s.heap → AVis s.heap ρ v r → g v σ H = some (σ', H') →
    (∀ ρ' h' tk, StepX (own env) ρ s.heap ρ' h' → Inv w base env (env :: outer) σ' ρ' H' h' → Plain s.heap h' → Q () { s with heap := h', toks := tk }) →
    wpAny (model PG w) A (assign t env r) Q E s
/-- the targets of an unpacking, in order -/
noncomputable def DenGs (w : World) (base : Heap) (k : Nat) (env : Env) (ts : List (Value → Sem Unit)) (n : Nat) (g : List AV → AS → AH → Option (AS × AH)) : Prop :=
  ts.length = n ∧ ∀ ⦃A : Around⦄ ⦃outer : List Env⦄ ⦃σ : AS⦄ ⦃ρ : List Addr⦄ ⦃H : AH⦄ ⦃vs : List AV⦄ ⦃rs : List Value⦄ ⦃σ' : AS⦄ ⦃H' : AH⦄ ⦃s : Shared⦄ ⦃Q : Unit → Shared → Prop⦄ ⦃E : Value → Shared → Prop⦄,
    Wd w base → Ax A (env :: outer) k → Inv w base env (env :: outer) σ ρ H s.heap → AVall s.heap ρ vs rs → g vs σ H = some (σ', H') →
    (∀ ρ' h' tk, StepX (own env) ρ s.heap ρ' h' → Inv w base env (env :: outer) σ' ρ' H' h' → Plain s.heap h' → Q () { s with heap := h', toks := tk }) →
    wpAny (model PG w) A (assignInOrder ts rs) Q E s

section
variable {w : World} {base : Heap} {k : Nat} {env : Env}
theorem Plain.refl (h : Heap) : Plain h h := fun _ _ e _ => e
theorem Plain.trans {h h₁ h₂ : Heap} (x : Plain h h₁) (y : Plain h₁ h₂) : Plain h h₂ := fun b o e c => y b o (x b o e c) c

noncomputable def NmOk (env : Env) (i : Nat) : Prop := env.kindOf (nm i) = some .local ∨ (env.kindOf (nm i) = some .cell ∧ (env.cells.lookup (nm i)).isSome = true)
theorem Inv.plainStore {fs : List Env} {σ σ' : AS} {ρ ρ' : List Addr} {H H' : AH} {h h' : Heap} (I : Inv w base env fs σ ρ H h) (S : StepX (own env) ρ h ρ' h') : Plain h h' := fun b o e c => by
  refine S.kept b o e (fun m => ?_) fun ow => ?_
  · rcases I.hp.cls m e with q | q | ⟨C, q⟩ <;> rcases c with ⟨c, _⟩ | ⟨c, _⟩ <;> rw [q] at c <;> simp at c
  · rcases ow with rfl | ⟨y, _, hc⟩
    · obtain ⟨m, ⟨oL, es, ep, gL, dL, _⟩, hv⟩ := I.vars
      rw [e] at gL; cases gL
      rcases c with ⟨_, ws, n, d⟩ | ⟨_, vs, d⟩ <;> rw [dL] at d <;> cases d
    · obtain ⟨_, _, _, o', v, g, d'⟩ := I.cells y b hc
      rw [e] at g; cases g
      rcases c with ⟨_, ws, n, d⟩ | ⟨_, vs, d⟩ <;> rw [d'] at d <;> cases d
noncomputable def gName (i : Nat) : GD := fun v σ H => some (put i v σ, H)
theorem gName_ok (i : Nat) {x : Str} {p : Pos} (hx : x = nm i) (lt : i < 86) (hk : NmOk env i) : DenG w base k env (.Name x p) (gName i) := by
  intro A outer σ ρ H v r σ' H' s Q E W a I av e q
  subst hx
  cases e
  exact wpAny_assign_Name (storeVar I hk lt av fun h' tk S I' => q ρ h' tk S I' (I.plainStore S (σ' := σ) (H' := H)))
noncomputable def gAttr (f : ED) (i : Nat) : GD := fun v σ H => match f σ H with
  | some (o, H₁) => (match setA H₁ o i v with | some H₂ => some (σ, H₂) | Option.none => Option.none)
  | Option.none => Option.none
theorem gAttr_ok (i : Nat) {e : Expr} {f : ED} {x : Str} {p : Pos} (hx : x = nm i) (lt : i < 86) (hf : DenE w base k env e f) : DenG w base k env (.Attribute e x p) (gAttr f i) := by
  intro A outer σ ρ H v r σ' H' s Q E W a I av e q
  subst hx
  unfold gAttr at e
  split at e
  · rename_i o H₁ h1
    split at e
    · rename_i H₂ h2
      cases e
      rw [assign_Attribute]
      refine wpAny_bind (wpAny_holding (hf W a I h1 fun ρ₁ g₁ t₁ r₁ S₁ P₁ v₁ => wpAny_bind (wpAny_standAt (wpAny_bind (wpAny_holding ?_)))))
      refine setAttr_ok (s := { s with heap := g₁, toks := t₁ }) W P₁ lt h2 v₁ (av.mono (S₁.plain I.hp) S₁.pre) fun h' tk S P => wpAny_release ?_
      have I₁ := I.next S₁ P₁
      exact q ρ₁ h' tk (Step.x (S₁.trans S)) (I₁.next S P) ((S₁.plain I.hp).trans (S.plain P₁))
    · cases e
  · cases e

/-- the item of a list is set -/
theorem setItem_plain {A : Around} {s : Shared} {E : Value → Shared → Prop} {l : Addr} {items : Array Value} {k : Int} {t : Tok} {v : Value} {Q : Unit → Shared → Prop} (hl : s.heap.PlainList l items)
    (h0 : 0 ≤ k) (hfit : k < 2 ^ 63) (hn : k < items.size)
    (hQ : ∀ h', h'.PlainList l (items.setIfInBounds k.toNat v) → Heap.SameBut l s.heap h' → Q () { s with heap := h' }) :
    wpAny (model PG w) A (setItem (.ref l) (.int k t) v) Q E s := by
  obtain ⟨n₀, ho⟩ := hl
  have hl : s.heap.IsList l items := ⟨_, ho, rfl, _, rfl⟩
  have hd : ({ cls := .type "list", data := .seq items n₀ } : Obj).data = .seq items n₀ := rfl
  unfold setItem
  try with_reducible refine wpAny_holding ?_
  first | refine wpAny_bind (wpAny_pure ?_) | skip
  refine wpAny_bind (wpAny_sequenceKey hl.typeIs (by decide) ?_)
  refine wpAny_bind (wpAny_callSpecial?_slot (name := Str.ofString "__setitem__") hl.typeIs slot_list_setitem
    (wpAny_call_entry slot_list_setitem hl.typeIs entry_list_setitem ?_ (args_list_setitem _ _ _)))
  show wpAny _ _ (Builtin.List.listSubscript? (.int k t) >>= _) _ _ s
  refine wpAny_bind (wpAny_listSubscript_int (fitsIndex_of h0 hfit) ?_)
  clear hfit
  obtain ⟨j, rfl⟩ := Int.eq_ofNat_of_zero_le h0
  have hj : j < items.size := by omega
  have hx' : items[j]? = some items[j] := Array.getElem?_eq_getElem hj
  show wpAny _ _ ((seqItemAt l j >>= fun r => pure (r.map (j, ·))) >>= _) _ _ s
  refine wpAny_bind (wpAny_bind (wpAny_seqItemAt ho hd (wpAny_pure ?_)))
  rw [hx']
  show wpAny _ _ (setSeqItemAt l j v >>= _) _ _ s
  have hfin : (s.heap.update l (Obj.mapSeq (·.setIfInBounds j v))).PlainList l (items.setIfInBounds j v) :=
    ⟨_, Heap.get?_update_self _ ho rfl⟩
  refine wpAny_bind (wpAny_setSeqItemAt ho hd ?_)
  first
    | exact wpAny_bind (wpAny_pure (wpAny_pure ⟨.none, rfl, wpAny_pure (hQ _ hfin (Heap.SameBut.update ..))⟩))
    | exact wpAny_pure ⟨.none, rfl, wpAny_pure (hQ _ hfin (Heap.SameBut.update ..))⟩

noncomputable def setI (H : AH) (o i v : AV) : Option AH := match o, i with
  | .ref j, .int n => (match H[j]? with
    | some (.list l) => if 0 ≤ n ∧ n < l.length ∧ l.length ≤ 1000 then some (H.set j (.list (l.set n.toNat v))) else Option.none
    | _ => Option.none)
  | _, _ => Option.none
theorem setItem_ok {A : Around} {ρ : List Addr} {H H' : AH} {o i v : AV} {r x y : Value} {s : Shared} {Q : Unit → Shared → Prop} {E : Value → Shared → Prop}
    (P : HeapOk w base ρ H s.heap) (e : setI H o i v = some H') (a : AVis s.heap ρ o r) (b : AVis s.heap ρ i x) (c : AVis s.heap ρ v y)
    (q : ∀ h', Step ρ s.heap ρ h' → HeapOk w base ρ H' h' → Q () { s with heap := h' }) :
    wpAny (model PG w) A (setItem r x y) Q E s := by
  unfold setI at e
  split at e
  · rename_i j n
    split at e
    · rename_i l hj
      split at e
      · rename_i hn
        cases e
        unfold AVis at a b
        obtain ⟨p, hp, rfl⟩ := a
        obtain ⟨t, rfl⟩ := b
        obtain ⟨ws, hpl, al⟩ := P.at' j p _ hp hj
        have ln : ws.size = l.length := by rw [← al.len]; simp
        refine setItem_plain hpl hn.1 (by omega) (by omega) fun h' hl' sb => ?_
        have kp : ∀ b o, b ≠ p → s.heap.get? b = some o → h'.get? b = some o := fun b o nb e => (sb.2 b nb).trans e
        have pl : Plain s.heap h' := P.plain fun b o g nb => kp b o (fun z => nb (z ▸ List.mem_of_getElem? hp)) g
        refine q h' (Step.upd hp kp) (P.upd hp kp ⟨_, hl', ?_⟩)
        rw [Array.toList_setIfInBounds]
        exact AVall.set (c.mono pl ⟨[], by simp⟩) (al.mono pl ⟨[], by simp⟩)
      · cases e
    · cases e
  · cases e
noncomputable def gItem (f g : ED) : GD := fun v σ H => match f σ H with
  | some (o, H₁) => (match g σ H₁ with
    | some (i, H₂) => (match setI H₂ o i v with | some H₃ => some (σ, H₃) | Option.none => Option.none)
    | Option.none => Option.none)
  | Option.none => Option.none
theorem gItem_ok {e i : Expr} {f g : ED} {p : Pos} (hf : DenE w base k env e f) (hg : DenE w base k env i g) : DenG w base k env (.Subscript e i p) (gItem f g) := by
  intro A outer σ ρ H v r σ' H' s Q E W a I av e q
  unfold gItem at e
  split at e
  · rename_i o H₁ h1
    split at e
    · rename_i x H₂ h2
      split at e
      · rename_i H₃ h3
        cases e
        rw [assign_Subscript]
        refine wpAny_bind (wpAny_holding (hf W a I h1 fun ρ₁ g₁ t₁ r₁ S₁ P₁ v₁ => wpAny_bind (wpAny_holding (hg W a (I.next S₁ P₁) h2 fun ρ₂ g₂ t₂ r₂ S₂ P₂ v₂ => wpAny_bind (wpAny_standAt (wpAny_bind (wpAny_holding ?_)))))))
        have S₁₂ := S₁.trans S₂
        refine setItem_ok (s := { s with heap := g₂, toks := t₂ }) P₂ h3 (v₁.mono (S₂.plain P₁) S₂.pre) v₂ (av.mono (S₁₂.plain I.hp) S₁₂.pre) fun h' S P => wpAny_release ?_
        exact q ρ₂ h' t₂ (Step.x (S₁₂.trans S)) ((I.next S₁₂ P₂).next S P) ((S₁₂.plain I.hp).trans (S.plain P₂))
      · cases e
    · cases e
  · cases e

noncomputable def gsNil : List AV → AS → AH → Option (AS × AH) := fun vs σ H => match vs with | [] => some (σ, H) | _ => Option.none
noncomputable def gsCons (f : GD) (g : List AV → AS → AH → Option (AS × AH)) : List AV → AS → AH → Option (AS × AH) := fun vs σ H => match vs with
  | v :: r => (match f v σ H with | some (σ₁, H₁) => g r σ₁ H₁ | Option.none => Option.none)
  | [] => Option.none
theorem gsNil_ok : DenGs w base k env [] 0 gsNil := by
  refine ⟨rfl, ?_⟩
  intro A outer σ ρ H vs rs σ' H' s Q E W a I av e q
  unfold gsNil at e
  split at e
  · cases e
    unfold AVall at av; subst av
    exact wpAny_pure (q ρ s.heap s.toks (.refl ..) I (.refl _))
  · cases e
theorem gsCons_ok {t : Expr} {ts : List (Value → Sem Unit)} {n : Nat} {f : GD} {g : List AV → AS → AH → Option (AS × AH)} (hf : DenG w base k env t f) (hg : DenGs w base k env ts n g) :
    DenGs w base k env (assign t env :: ts) (n + 1) (gsCons f g) := by
  refine ⟨by rw [List.length_cons, hg.1], ?_⟩
  intro A outer σ ρ H vs rs σ' H' s Q E W a I av e q
  unfold gsCons at e
  split at e
  · rename_i v r
    split at e
    · rename_i σ₁ H₁ h1
      unfold AVall at av
      obtain ⟨x, xs, rfl, ax, al⟩ := av
      show wpAny _ _ (do holding xs (assign t env x); assignInOrder ts xs) _ _ _
      refine wpAny_bind (wpAny_holding (hf W a I ax h1 fun ρ₁ g₁ t₁ S₁ I₁ p₁ => ?_))
      exact hg.2 W a I₁ (al.mono p₁ S₁.pre) e fun ρ₂ g₂ t₂ S₂ I₂ p₂ => q ρ₂ g₂ _ (S₁.trans S₂ I₂.ownN) I₂ (p₁.trans p₂)
    · cases e
  · cases e
theorem extBut_size {h h' : Heap} (x : Heap.ExtBut h.objs.size h h') : ∀ b o, h.get? b = some o → h'.get? b = some o := fun b o e => x b o (Nat.ne_of_lt (Heap.lt_size e)) e
noncomputable def gTup (g : List AV → AS → AH → Option (AS × AH)) : GD := fun v σ H => match v with
  | .tup vs => g vs σ H
  | _ => Option.none
theorem gTup_ok {es : List Expr} {kk : Nat} {p : Pos} {ts : List (Value → Sem Unit)} {n : Nat} {g : List AV → AS → AH → Option (AS × AH)} (hg : DenGs w base k env ts n g) (hts : (assignEach es env).map (·.2) = ts)
    (hst : (assignEach es env).findIdx? (·.1) = none) (hn : ∀ vs σ H r, g vs σ H = some r → vs.length = n) : DenG w base k env (.Tuple es kk p) (gTup g) := by
  intro A outer σ ρ H v r σ' H' s Q E W a I av e q
  unfold gTup at e
  split at e
  · rename_i vs
    unfold AVis at av
    obtain ⟨c, o, m, ws, rfl, hc, hcl, hd, al⟩ := av
    have ht : s.heap.IsTuple c ws := ⟨o, hc, hcl, m, hd⟩
    have ln : ws.size = vs.length := by rw [← al.len]; simp
    have := hn _ _ _ _ e
    refine wpAny_assign_Tuple a.hh ht (by rw [ln, this, ← hg.1, ← hts, List.length_map]) hst fun h' x => ?_
    have kp := extBut_size x
    have S : Step ρ s.heap ρ h' := Step.keeps kp
    have P := I.hp.keeps kp
    rw [hts]
    refine hg.2 W a (I.next S P) (al.mono (S.plain I.hp) S.pre) e fun ρ₁ g₁ t₁ S₁ I₁ p₁ => ?_
    exact q ρ₁ g₁ t₁ ((Step.x S).trans S₁ I₁.ownN) I₁ ((S.plain I.hp).trans p₁)
  · cases e
theorem gs_len0 : ∀ vs σ H r, gsNil vs σ H = some r → vs.length = 0 := fun vs σ H r e => by
  unfold gsNil at e
  split at e
  · rfl
  · cases e
theorem gs_lenS {f : GD} {g : List AV → AS → AH → Option (AS × AH)} {n : Nat} (hg : ∀ vs σ H r, g vs σ H = some r → vs.length = n) : ∀ vs σ H r, gsCons f g vs σ H = some r → vs.length = n + 1 := fun vs σ H r e => by
  unfold gsCons at e
  split at e
  · split at e
    · rw [List.length_cons, hg _ _ _ _ e]
    · cases e
  · cases e

/-! assignments -/
noncomputable def sAss (f : ED) (g : GD) : SD := fun σ H => match f σ H with
  | some (v, H₁) => (match g v σ H₁ with | some (σ', H') => some (.next, σ', H') | Option.none => Option.none)
  | Option.none => Option.none
theorem sAss_ok {t e : Expr} {f : ED} {g : GD} {p : Pos} (hf : DenE w base k env e f) (hg : DenG w base k env t g) (ha : (assignEach [t] env).map (·.2) = [assign t env]) (hs : swapsWithSole [t] e p.line env = pure false) (hw : swappedStores [t] e env = pure none) :
    DenS w base k env (exec (.Assign [t] e p) env) (sAss f g) := by
  intro A outer σ ρ H oc σ' H' s Q E W a I e q qe
  unfold sAss at e
  split at e
  · rename_i v H₁ h1
    split at e
    · rename_i σ₂ H₂ h2
      cases e
      refine wpAny_Assign_stores (hf W a I h1 fun ρ₁ g₁ t₁ r₁ S₁ P₁ v₁ => ?_) hs hw
      rw [ha]
      exact hg W a (I.next S₁ P₁) v₁ h2 fun ρ₂ g₂ t₂ S₂ I₂ _ => q ρ₂ g₂ _ _ ((Step.x S₁).trans S₂ I₂.ownN) I₂ rfl
    · cases e
  · cases e
/-- x, y = v, w on one line: the names from the right -/
noncomputable def sSwap (f : ED) (i j : Nat) : SD := fun σ H => match f σ H with
  | some (.tup [v, u], H₁) => some (.next, put i v (put j u σ), H₁)
  | _ => Option.none
theorem sSwap_ok (i j : Nat) {x y : Str} {t e : Expr} {f : ED} {p : Pos} (hx : x = nm i) (hy : y = nm j) (li : i < 86) (lj : j < 86) (hi : NmOk env i) (hj : NmOk env j) (hf : DenE w base k env e f) (hs : swapsWithSole [t] e p.line env = pure false)
    (hw : swappedStores [t] e env = pure (some [x, y])) : DenS w base k env (exec (.Assign [t] e p) env) (sSwap f i j) := by
  intro A outer σ ρ H oc σ' H' s Q E W a I e q qe
  subst hx hy
  unfold sSwap at e
  split at e
  · rename_i v u H₁ h1
    cases e
    rw [exec_Assign_arm, hs]
    refine wpAny_bind (wpAny_standAt (wpAny_bind (wpAny_pure ?_)))
    rw [if_neg (by decide)]
    refine wpAny_bind (hf W a I h1 fun ρ₁ g₁ t₁ r₁ S₁ P₁ v₁ => ?_)
    rw [hw]
    refine wpAny_bind (wpAny_pure ?_)
    unfold AVis at v₁
    obtain ⟨c, o, n, ws, rfl, hc, hcl, hd, al⟩ := v₁
    have ht : g₁.IsTuple c ws := ⟨o, hc, hcl, n, hd⟩
    have ln : ws.size = 2 := by
      have := al.len
      simpa using this
    show wpAny _ _ (do rule "assign.swapped-stores"; let items ← unpackItems (.ref c) 2 none; assignInOrder ([nm j, nm i].map fun n => bindName env n) items.reverse; pure Flow.next) _ _ _
    refine wpAny_bind (wpAny_rule (wpAny_bind ?_))
    rw [← ln]
    refine wpAny_unpackItems_tuple a.hh ht fun h' x => ?_
    have kp := extBut_size x
    have S : Step ρ₁ g₁ ρ₁ h' := Step.keeps kp
    have P := P₁.keeps kp
    have al' := al.mono (S.plain P₁) S.pre
    unfold AVall at al'
    obtain ⟨x₁, r₁, e₁, a₁, al'⟩ := al'
    unfold AVall at al'
    obtain ⟨x₂, r₂, e₂, a₂, al'⟩ := al'
    unfold AVall at al'
    subst al' e₂
    rw [e₁]
    have I₁ := (I.next S₁ P₁).next S P
    refine wpAny_bind ?_
    show wpAny _ _ (do holding [x₁] (bindName env (nm j) x₂); do holding [] (bindName env (nm i) x₁); pure ()) _ _ _
    refine wpAny_bind (wpAny_holding (wpAny_bindName (storeVar (s := { s with heap := h', toks := t₁ }) I₁ hj lj a₂ fun h₂ t₂ S₂ I₂ => ?_)))
    have p₂ : Plain h' h₂ := I₁.plainStore S₂ (σ' := σ) (H' := H)
    refine wpAny_bind (wpAny_holding (wpAny_bindName (storeVar (s := { s with heap := h₂, toks := t₂ }) I₂ hi li (a₁.mono p₂ S₂.pre) fun h₃ t₃ S₃ I₃ => ?_)))
    exact wpAny_pure (wpAny_pure (q ρ₁ h₃ t₃ _ (((Step.x (S₁.trans S)).trans S₂ I₂.ownN).trans S₃ I₃.ownN) I₃ rfl))
  · cases e
end
end Mine
end
/-! part D8 -/
section
open PySem PySem.W PyProof.Rows
set_option maxRecDepth 100000
set_option linter.unusedVariables false
namespace Mine
section
variable {w : World} {base : Heap} {k : Nat} {env : Env}

/-! augmented assignments -/
noncomputable def sAugN (op : Int → Int → Option Int) (i : Nat) (f : ED) : SD := fun σ H => match lk i σ with
  | some (.int x) => (match f σ H with
    | some (.int y, H₁) => (match op x y with | some z => some (.next, put i (.int z) σ, H₁) | Option.none => Option.none)
    | _ => Option.none)
  | _ => Option.none
theorem sAugN_ok {o : Operator} {op : Int → Int → Option Int} (ho : BinOk o op) (i : Nat) {x : Str} {p p' : Pos} {e : Expr} {f : ED} (hx : x = nm i) (lt : i < 86) (hk : NmOk env i) (hf : DenE w base k env e f) :
    DenS w base k env (exec (.AugAssign (.Name x p') o e p) env) (sAugN op i f) := by
  intro A outer σ ρ H oc σ' H' s Q E W a I e q qe
  subst hx
  unfold sAugN at e
  split at e
  · rename_i x h0
    split at e
    · rename_i y H₁ h1
      split at e
      · rename_i z h2
        cases e
        refine wpAny_AugAssign_Name (loadVar I h0 fun r av => hf W a I h1 fun ρ₁ g₁ t₁ r₁ S₁ P₁ v₁ => ?_)
        unfold AVis at av v₁
        obtain ⟨_, rfl⟩ := av
        obtain ⟨_, rfl⟩ := v₁
        refine (ho h2 fun tk t' => ?_).2
        exact storeVar (s := { s with heap := g₁, toks := tk }) (I.next S₁ P₁) hk lt (by unfold AVis; exact ⟨_, rfl⟩) fun h' tk' S' I' => q ρ₁ h' tk' _ ((Step.x S₁).trans S' I'.ownN) I' rfl
      · cases e
    · cases e
  · cases e
noncomputable def sAugI (op : Int → Int → Option Int) (fo fi f : ED) : SD := fun σ H => match fo σ H with
  | some (o, H₁) => (match fi σ H₁ with
    | some (i, H₂) => (match itemOf H₂ o i with
      | some (.int x) => (match f σ H₂ with
        | some (.int y, H₃) => (match op x y with
          | some z => (match setI H₃ o i (.int z) with | some H₄ => some (.next, σ, H₄) | Option.none => Option.none)
          | Option.none => Option.none)
        | _ => Option.none)
      | _ => Option.none)
    | Option.none => Option.none)
  | Option.none => Option.none
theorem sAugI_ok {o : Operator} {op : Int → Int → Option Int} (ho : BinOk o op) {p p' : Pos} {eo ei e : Expr} {fo fi f : ED} (hfo : DenE w base k env eo fo) (hfi : DenE w base k env ei fi) (hf : DenE w base k env e f)
    (hi : ∀ ov iv new, augStore ei ov iv new = (do holding [new, ov, iv] (setItem ov iv new); release [new, ov, iv] []; pure .next)) :
    DenS w base k env (exec (.AugAssign (.Subscript eo ei p') o e p) env) (sAugI op fo fi f) := by
  intro A outer σ ρ H oc σ' H' s Q E W a I e q qe
  unfold sAugI at e
  split at e
  · rename_i o H₁ h1
    split at e
    · rename_i i H₂ h2
      split at e
      · rename_i x h3
        split at e
        · rename_i y H₃ h4
          split at e
          · rename_i z h5
            split at e
            · rename_i H₄ h6
              cases e
              refine wpAny_AugAssign_SubscriptAny (hfo W a I h1 fun ρ₁ g₁ t₁ r₁ S₁ P₁ v₁ => hfi W a (I.next S₁ P₁) h2 fun ρ₂ g₂ t₂ r₂ S₂ P₂ v₂ => ?_) hi
              have v₁' := v₁.mono (S₂.plain P₁) S₂.pre
              have S₁₂ := S₁.trans S₂
              refine (getItem_ok (s := { s with heap := g₂, toks := t₂ }) P₂ h3 v₁' v₂ fun r av => ?_).1
              refine hf W a (I.next S₁₂ P₂) h4 fun ρ₃ g₃ t₃ r₃ S₃ P₃ v₃ => ?_
              unfold AVis at av v₃
              obtain ⟨_, rfl⟩ := av
              obtain ⟨_, rfl⟩ := v₃
              refine (ho h5 fun tk t' => ?_).2
              have S₁₃ := S₁₂.trans S₃
              refine setItem_ok (s := { s with heap := g₃, toks := tk }) P₃ h6 (v₁'.mono (S₃.plain P₂) S₃.pre) (v₂.mono (S₃.plain P₂) S₃.pre) (by unfold AVis; exact ⟨_, rfl⟩) fun h' S P => ?_
              exact q ρ₃ h' tk _ (Step.x (S₁₃.trans S)) ((I.next S₁₃ P₃).next S P) rfl
            · cases e
          · cases e
        · cases e
      · cases e
    · cases e
  · cases e

/-! a dict's item -/
theorem valueAt_cons {K : Type} [DecidableEq K] (a : K) (b : Value) (r : List (K × Value)) (k : K) : valueAt ((a, b) :: r) k = if a = k then some b else valueAt r k := by
  unfold valueAt
  by_cases h : a = k <;> simp [h]
theorem valueAt_map {K : Type} [DecidableEq K] (k k' : K) (v : Value) : ∀ kvs : List (K × Value), valueAt (kvs.map fun kv => if kv.1 = k then (kv.1, v) else kv) k' = if k' = k then (valueAt kvs k).map (fun _ => v) else valueAt kvs k'
  | [] => by unfold valueAt; simp
  | (a, b) :: r => by
    have ih := valueAt_map k k' v r
    rw [List.map_cons]
    by_cases h : a = k
    · subst h
      rw [if_pos rfl, valueAt_cons, valueAt_cons, valueAt_cons, ih]
      by_cases h' : a = k'
      · subst h'; simp
      · rw [if_neg h', if_neg (Ne.symm h'), if_neg (Ne.symm h'), if_neg h']
    · rw [if_neg h, valueAt_cons, valueAt_cons, valueAt_cons, ih, if_neg h]
      by_cases h' : a = k'
      · subst h'; rw [if_pos rfl, if_neg h, if_pos rfl]
      · rw [if_neg h', if_neg h']
theorem valueAt_any {K : Type} [DecidableEq K] {k : K} {o : Value} : ∀ {kvs : List (K × Value)}, valueAt kvs k = some o → kvs.any (fun kv => kv.1 = k) = true
  | [], h => by cases h
  | (a, b) :: r, h => by
    rw [valueAt_cons] at h
    by_cases e : a = k
    · simp [e]
    · rw [if_neg e] at h
      simp [valueAt_any h]
theorem valueAt_old {K : Type} [DecidableEq K] {kvs : List (K × Value)} {k : K} {o : Value} (h : valueAt kvs k = some o) (v : Value) (k' : K) : valueAt (stored kvs k v) k' = if k' = k then some v else valueAt kvs k' := by
  have := valueAt_any h
  unfold stored
  rw [if_pos this, valueAt_map, h]
  rfl
theorem stored_len {K : Type} [DecidableEq K] {kvs : List (K × Value)} {k : K} {o : Value} (h : valueAt kvs k = some o) (v : Value) : (stored kvs k v).length = kvs.length := by
  have := valueAt_any h
  unfold stored
  rw [if_pos this, List.length_map]
noncomputable def sAugK (op : Int → Int → Option Int) (fo : ED) (i : Nat) (f : ED) : SD := fun σ H => match fo σ H with
  | some (o, H₁) => (match mapOf H₁ o with
    | some (j, fs) => (match lk i fs with
      | some (.int x) => (match f σ H₁ with
        | some (.int y, H₂) => (match mapOf H₂ o with
          | some (j', fs') => (match op x y with
            | some z => (match lk i fs' with | some _ => some (.next, σ, H₂.set j' (.map (put i (.int z) fs'))) | Option.none => Option.none)
            | Option.none => Option.none)
          | Option.none => Option.none)
        | _ => Option.none)
      | _ => Option.none)
    | Option.none => Option.none)
  | Option.none => Option.none
theorem sAugK_ok {o : Operator} {op : Int → Int → Option Int} (ho : BinOk o op) (i : Nat) {x : Str} {kd : Nat} {p p' p'' : Pos} {eo e : Expr} {fo f : ED} (hx : x = nm i) (hfo : DenE w base k env eo fo) (hf : DenE w base k env e f) :
    DenS w base k env (exec (.AugAssign (.Subscript eo (.Constant (.str x) kd p'') p') o e p) env) (sAugK op fo i f) := by
  intro A outer σ ρ H oc σ' H' s Q E W a I e q qe
  subst hx
  unfold sAugK at e
  split at e
  · rename_i o H₁ h1
    split at e
    · rename_i j fs h2
      split at e
      · rename_i x h3
        split at e
        · rename_i y H₂ h4
          split at e
          · rename_i j' fs' h5
            split at e
            · rename_i z h6
              split at e
              · rename_i old h7
                cases e
                refine wpAny_AugAssign_SubscriptAny (hfo W a I h1 fun ρ₁ g₁ t₁ r₁ S₁ P₁ v₁ => Calls.Constant_str ?_)
                refine (getKey_ok (s := { s with heap := g₁, toks := t₁ + 1 }) P₁ h2 h3 v₁ fun r av => ?_).1
                refine hf W a (I.next S₁ P₁) h4 fun ρ₂ g₂ t₂ r₂ S₂ P₂ v₂ => ?_
                unfold AVis at av v₂
                obtain ⟨_, rfl⟩ := av
                obtain ⟨_, rfl⟩ := v₂
                refine (ho h6 fun tk t' => ?_).2
                have S₁₂ := S₁.trans S₂
                have v₁' := v₁.mono (S₂.plain P₁) S₂.pre
                obtain ⟨rfl, hj⟩ := mapOf_at h5
                unfold AVis at v₁'
                obtain ⟨b, hb, rfl⟩ := v₁'
                obtain ⟨kvs, hd, hz, m⟩ := P₂.at' j' b _ hb hj
                obtain ⟨lt, yo, hy, _⟩ := m i old h7
                refine wpAny_setItem_pairs (s := { s with heap := g₂, toks := tk }) (knd := strKind PG w) (k := nm i) (by show (nm i == nm i) = true; simp) hd (fun h' hd' sb => ?_) (by rw [sizeLine_eq]; omega)
                have kp : ∀ c o, c ≠ b → g₂.get? c = some o → h'.get? c = some o := fun c o nb e => (sb.2 c nb).trans e
                have pl : Plain g₂ h' := P₂.plain fun c o g nb => kp c o (fun z => nb (z ▸ List.mem_of_getElem? hb)) g
                have S₃ : Step ρ₂ g₂ ρ₂ h' := Step.upd hb kp
                have P₃ := P₂.upd (ao := .map (put i (.int z) fs')) hb kp ⟨_, hd', by rw [stored_len hy]; exact hz, fun i' v' e' => by
                  rw [lk_put] at e'
                  rw [valueAt_old hy]
                  by_cases ze : i' = i
                  · subst ze
                    rw [if_pos rfl] at e'; cases e'
                    exact ⟨lt, _, if_pos rfl, by unfold AVis; exact ⟨_, rfl⟩⟩
                  · rw [if_neg ze] at e'
                    obtain ⟨lt', r', hr', av'⟩ := m i' v' e'
                    exact ⟨lt', r', by rw [if_neg fun z => ze (nm_inj lt' lt z)]; exact hr', av'.mono pl ⟨[], by simp⟩⟩⟩
                exact q ρ₂ h' _ _ (Step.x (S₁₂.trans S₃)) ((I.next S₁₂ P₂).next S₃ P₃) rfl
              · cases e
            · cases e
          · cases e
        · cases e
      · cases e
    · cases e
  · cases e

/-! expressions that may raise; functions -/
inductive Out where | val (v : AV) | exc (q : Int)
noncomputable abbrev XD := AS → AH → Option (Out × AH)
noncomputable def NoOwn : Addr → Prop := fun _ => False
noncomputable def DenX (w : World) (base : Heap) (k : Nat) (env : Env) (e : Expr) (f : XD) : Prop :=
  ∀ ⦃A : Around⦄ ⦃fs : List Env⦄ ⦃σ : AS⦄ ⦃ρ : List Addr⦄ ⦃H : AH⦄ ⦃o : Out⦄ ⦃H' : AH⦄ ⦃s : Shared⦄ ⦃Q : Value → Shared → Prop⦄ ⦃E : Value → Shared → Prop⦄,
    Wd w base → Ax A fs k → Inv w base env fs σ ρ H s.heap → f σ H = some (o, H') →
    (∀ v ρ' h' tk r, o = .val v → Step ρ s.heap ρ' h' → HeapOk w base ρ' H' h' → AVis h' ρ' v r → Q r { s with heap := h', toks := tk }) →
    (∀ q h' tk e tr, o = .exc q → StepE base NoOwn fs ρ s.heap h' → ExcAt s.heap h' e q tr → E (.ref e) { s with heap := h', toks := tk }) →
    wpAny (model PG w) A (eval e env) Q E s
noncomputable def dX (f : XD) : ED := fun σ H => match f σ H with | some (.val v, H') => some (v, H') | _ => Option.none
theorem dX_ok {e : Expr} {f : XD} (hf : DenX w base k env e f) : DenE w base k env e (dX f) := by
  intro A fs σ ρ H v H' s Q E W a I e q
  unfold dX at e
  split at e
  · rename_i v' H₁ h1
    cases e
    exact hf W a I h1 (fun v ρ' h' tk r z S P av => by cases z; exact q ρ' h' tk r S P av) fun _ _ _ _ _ z => by cases z
  · cases e
noncomputable def sExpr (f : XD) : SD := fun σ H => match f σ H with
  | some (.val _, H') => some (.next, σ, H')
  | some (.exc q, H') => some (.exc q, σ, H')
  | Option.none => Option.none
theorem sExpr_ok {e : Expr} {p : Pos} {f : XD} (hf : DenX w base k env e f) (hi : interactive env = false) (hs : swapsWith e none p.line env = pure false) : DenS w base k env (exec (.Expr e p) env) (sExpr f) := by
  intro A outer σ ρ H oc σ' H' s Q E W a I e q qe
  unfold sExpr at e
  split at e
  · rename_i v H₁ h1
    cases e
    exact wpAny_Expr_any (hf W a I h1 (fun v ρ' h' tk r z S P av => q ρ' h' tk _ (Step.x S) (I.next S P) rfl) fun _ _ _ _ _ z => by cases z) hi hs
  · rename_i q' H₁ h1
    cases e
    exact wpAny_Expr_any (hf W a I h1 (fun _ _ _ _ _ z => by cases z) fun q' h' tk e tr z S X => by
      cases z
      exact qe _ h' tk e tr rfl ⟨fun b ob g n _ => S.kept b ob g n id, S.stay, S.frs⟩ X) hi hs
  · cases e
noncomputable def xE (f : ED) : XD := fun σ H => match f σ H with | some (v, H') => some (.val v, H') | Option.none => Option.none
theorem xE_ok {e : Expr} {f : ED} (hf : DenE w base k env e f) : DenX w base k env e (xE f) := by
  intro A fs σ ρ H o H' s Q E W a I e q qe
  unfold xE at e
  split at e
  · rename_i v H₁ h1
    cases e
    exact hf W a I h1 fun ρ' h' tk r S P av => q v ρ' h' tk r rfl S P av
  · cases e

noncomputable abbrev FD := List AV → AH → Option (Out × AH)
noncomputable def DenF (w : World) (base : Heap) (k : Nat) (f : Addr) (d : FD) : Prop :=
  ∀ ⦃A : Around⦄ ⦃fs : List Env⦄ ⦃ρ : List Addr⦄ ⦃H : AH⦄ ⦃vs : List AV⦄ ⦃rs : List Value⦄ ⦃o : Out⦄ ⦃H' : AH⦄ ⦃s : Shared⦄ ⦃R : Result → Shared → Prop⦄,
    Wd w base → Ax A fs k → HeapOk w base ρ H s.heap → Fok base fs ρ s.heap → AVall s.heap ρ vs rs → d vs H = some (o, H') →
    (∀ v ρ' h' tk r, o = .val v → Step ρ s.heap ρ' h' → HeapOk w base ρ' H' h' → AVis h' ρ' v r → R (.ok (.ret r)) { s with heap := h', toks := tk }) →
    (∀ q h' tk e tr, o = .exc q → StepE base NoOwn fs ρ s.heap h' → ExcAt s.heap h' e q tr → R (.error (.ref e)) { s with heap := h', toks := tk }) →
    codeAny (model PG w) A (.call (.ref f) ⟨rs, []⟩) R s
theorem DenF.mono {k k' : Nat} {f : Addr} {d : FD} (x : DenF w base k f d) (h : k ≤ k') : DenF w base k' f d := by
  intro A fs ρ H vs rs o H' s R W a
  exact x W (a.le h)

noncomputable def zipB : List Nat → List Value → List (Str × Value)
  | i :: is, r :: rs => (nm i, r) :: zipB is rs
  | _, _ => []
theorem bindL_out {kf : Str → Option NameKind} {i : Nat} (hi : i < 86) : ∀ {is : List Nat} {rs : List Value} {m : Str → Option Value}, i ∉ is → (∀ j ∈ is, j < 86) → bindL kf (zipB is rs) m (nm i) = m (nm i)
  | [], _, _, _, _ => rfl
  | j :: is, [], _, _, _ => rfl
  | j :: is, r :: rs, m, n, l => by
    unfold zipB bindL
    rw [bindL_out hi (fun z => n (.tail _ z)) fun j z => l j (.tail _ z)]
    split
    · exact if_neg fun z => n (by rw [nm_inj hi (l j (.head _)) z]; exact .head _)
    · rfl
theorem bindC_out {kf : Str → Option NameKind} {i : Nat} (hi : i < 86) : ∀ {is : List Nat} {rs : List Value} {m : Str → Option Value}, i ∉ is → (∀ j ∈ is, j < 86) → bindC kf (zipB is rs) m (nm i) = m (nm i)
  | [], _, _, _, _ => rfl
  | j :: is, [], _, _, _ => rfl
  | j :: is, r :: rs, m, n, l => by
    unfold zipB bindC
    rw [bindC_out hi (fun z => n (.tail _ z)) fun j z => l j (.tail _ z)]
    split
    · rfl
    · exact if_neg fun z => n (by rw [nm_inj hi (l j (.head _)) z]; exact .head _)
theorem bind_get {kf : Str → Option NameKind} {h : Heap} {ρ : List Addr} {i : Nat} {v : AV} : ∀ {is : List Nat} {vs : List AV} {rs : List Value} {m c : Str → Option Value}, is.Nodup → (∀ j ∈ is, j < 86) → AVall h ρ vs rs → lk i (is.zip vs) = some v →
    i ∈ is ∧ ∃ r, AVis h ρ v r ∧ (kf (nm i) = some .local → bindL kf (zipB is rs) m (nm i) = some r) ∧ (kf (nm i) ≠ some .local → bindC kf (zipB is rs) c (nm i) = some r)
  | [], _, _, _, _, _, _, _, e => by simp [lk] at e
  | j :: is, [], _, _, _, _, _, _, e => by simp [lk] at e
  | j :: is, v' :: vs, rs, m, c, nd, l, al, e => by
    unfold AVall at al
    obtain ⟨r, rs', rfl, av, al⟩ := al
    rw [List.nodup_cons] at nd
    rw [List.zip_cons_cons] at e
    unfold lk at e
    by_cases z : i = j
    · subst z
      rw [if_pos rfl] at e; cases e
      have lt := l i (.head _)
      refine ⟨.head _, r, av, fun hl => ?_, fun hl => ?_⟩
      · unfold zipB bindL
        rw [bindL_out lt nd.1 fun j z => l j (.tail _ z), if_pos hl]
        exact if_pos rfl
      · unfold zipB bindC
        rw [bindC_out lt nd.1 fun j z => l j (.tail _ z), if_neg hl]
        exact if_pos rfl
    · rw [if_neg z] at e
      obtain ⟨mi, r', av', y1, y2⟩ := bind_get (kf := kf) (m := if kf (nm j) = some .local then fun y => if y = nm j then some r else m y else m)
        (c := if kf (nm j) = some .local then c else fun y => if y = nm j then some r else c y) nd.2 (fun j z => l j (.tail _ z)) al e
      exact ⟨.tail _ mi, r', av', fun hl => by unfold zipB bindL; exact y1 hl, fun hl => by unfold zipB bindC; exact y2 hl⟩
theorem none_of' {h h' : Heap} (kp : ∀ b o, h.get? b = some o → h'.get? b = some o) {b : Addr} (e : h'.get? b = none) : h.get? b = none := by
  cases z : h.get? b with
  | none => rfl
  | some o => rw [kp b o z] at e; cases e
theorem pair_inj {cs : List (Str × Addr)} (h : cs.Pairwise fun x y => x.2 ≠ y.2) {a b : Str} {c : Addr} (ha : (a, c) ∈ cs) (hb : (b, c) ∈ cs) : a = b := by
  induction h with
  | nil => cases ha
  | @cons p l x _ ih =>
    cases ha with
    | head => cases hb with
      | head => rfl
      | tail _ hb => exact absurd rfl (x (b, c) hb)
    | tail _ ha => cases hb with
      | head => exact absurd rfl (x (a, c) ha)
      | tail _ hb => exact ih ha hb

theorem zipB_mem : ∀ {ps : List Nat} {rs : List Value}, ∀ x ∈ zipB ps rs, ∃ i ∈ ps, x.1 = nm i
  | [], rs, x, hx => by cases rs <;> cases hx
  | j :: is, [], x, hx => by cases hx
  | j :: is, r :: rs, x, hx => by
    unfold zipB at hx
    cases hx with
    | head => exact ⟨j, .head _, rfl⟩
    | tail _ hx =>
      obtain ⟨i, m, e⟩ := zipB_mem x hx
      exact ⟨i, .tail _ m, e⟩
noncomputable def outOf : Option (Oc × AS × AH) → Option (Out × AH)
  | some (.ret v, _, H) => some (.val v, H)
  | some (.next, _, H) => some (.val .none, H)
  | some (.exc q, _, H) => some (.exc q, H)
  | _ => Option.none
/-- a def's run by its body's -/
noncomputable def fDef (ps : List Nat) (b : SD) : FD := fun vs H => if vs.length = ps.length then outOf (b (ps.zip vs) H) else Option.none
theorem lookup_mem {cs : List (Str × Addr)} {x : Str} {c : Addr} (h : cs.lookup x = some c) : (x, c) ∈ cs := by
  induction cs with
  | nil => cases h
  | cons p r ih =>
    obtain ⟨y, d⟩ := p
    rw [List.lookup_cons] at h
    by_cases e : (x == y) = true
    · rw [e] at h; cases h
      rw [eq_of_beq e]; exact .head _
    · simp only [e] at h
      exact .tail _ (ih h)
theorem fDef_ok {k : Nat} {f : Addr} {ps : List Nat} {b : SD} {name qual : Str} {params : Arguments} {body : List Stmt} {scope : Scope} {dV kV doc pm cdv ct oc : Value} {an od : Option Addr} {osl : Array (Option Value)}
    (ho : (hd.heap_39 w.params).lookup f = some ⟨oc, od, .func (fnOf name qual params body scope dV kV doc pm an cdv ct), osl⟩) (hcd : codeIn (hd.heap_39 w.params) cdv qual = true)
    (nd : ps.Nodup) (lt : ∀ i ∈ ps, i < 86)
    (hbind : ∀ rs : List Value, rs.length = ps.length → bindArgs (fnOf name qual params body scope dV kV doc pm an cdv ct) ⟨rs, []⟩ = pure (zipB ps rs))
    (hkind : ∀ i ∈ ps, (scope.names.lookup (nm i) = some .local ∨ scope.names.lookup (nm i) = some .cell))
    (hb : ∀ L, DenS w base k (envOfC qual scope L f cdv) (execs body (envOfC qual scope L f cdv)) b)
    (hco : scope.isCoroutine = false) (hgen : scope.isGenerator = false) (hk : scope.kind = .function) : DenF w base (k + 1) f (fDef ps b) := by
  intro A fs ρ H vs rs o H' s R W a P F al e q qe
  unfold fDef at e
  split at e
  · rename_i hlen
    have hrs : rs.length = ps.length := al.len.trans hlen
    obtain ⟨mean, mg, mb, T⟩ := W.T
    have X := W.X.keeps P.stay
    have kb : ∀ x ∈ zipB ps rs, ∃ i ∈ ps, x.1 = nm i := zipB_mem
    refine codeAny_call_function (by have := a.dp; omega) (X _ _ ho) rfl hco hgen rfl (codeRec_of X hcd) ((BindsTo.of_eq (hbind rs hrs)) _ _ _ _ ?_)
    refine wpAny_newFunctionEnv_cells hk (fun x hx => ?_) fun env' he s' x => ?_
    · obtain ⟨i, mi, ei⟩ := kb x hx
      rw [ei]
      rcases hkind i mi with z | z
      · exact .inl z
      · exact .inr ⟨z, cellsFrom_some _ _ _ (.inl z)⟩
    subst he
    refine ⟨((T.nolimit.keeps P.stay)).keeps x.toInCall.keep, codeAny_func ?_⟩
    obtain ⟨h₁, tk, rfl, kp⟩ := x.done
    have big : base.objs.size ≤ s.heap.objs.size := F.big
    have locN : s.heap.objs.size ∉ ρ := fun m => P.there _ m (size_none _)
    have cA : ∀ y c, (cellsFrom (s.heap.objs.size + 1) scope.names []).lookup y = some c → s.heap.objs.size < c := fun y c h => x.above y c (lookup_mem h)
    have S : Step ρ s.heap ρ h₁ := Step.keeps kp
    have P₁ := P.keeps kp
    have F₁ : Fok base (envOfC qual scope s.heap.objs.size f cdv :: fs) ρ h₁ := by
      have F' := F.next S
      refine ⟨.cons (by show scope.kind ≠ .module; rw [hk]; decide) rfl x.toInCall.ns ?_ F'.frs, fun e m L hL => ?_, fun e m L hL => ?_, by simp⟩
      · exact Heap.get?_none_of_le big
      · rcases List.mem_cons.mp m with rfl | m
        · cases hL; exact locN
        · exact F'.frF e m L hL
      · rcases List.mem_cons.mp m with rfl | m
        · cases hL; exact big
        · exact F'.frB e m L hL
    have I : Inv w base (envOfC qual scope s.heap.objs.size f cdv) (envOfC qual scope s.heap.objs.size f cdv :: fs) (ps.zip vs) ρ H h₁ := by
      refine ⟨P₁, ⟨_, x.toInCall.ns, fun i v hv => ?_⟩, locN, big, fun y c hc => ?_, fun y y' c h h' => pair_inj x.apart (lookup_mem h) (lookup_mem h'), F₁, hk, rfl, rfl⟩
      · obtain ⟨mi, r, av, y1, y2⟩ := bind_get (kf := (envOfC qual scope s.heap.objs.size f cdv).kindOf) (m := fun _ => none) (c := fun _ => none) nd lt al hv
        refine ⟨lt i mi, r, av.mono (S.plain P) S.pre, ?_⟩
        rcases hkind i mi with z | z
        · exact .inl ⟨z, y1 z⟩
        · have hc : ((cellsFrom (s.heap.objs.size + 1) scope.names []).lookup (nm i)).isSome = true := cellsFrom_some _ _ _ (.inl z)
          obtain ⟨c, hc⟩ := Option.isSome_iff_exists.mp hc
          obtain ⟨oc, g, d⟩ := x.cell _ _ hc
          refine .inr ⟨.inl z, c, oc, hc, g, ?_⟩
          have nl : (envOfC qual scope s.heap.objs.size f cdv).kindOf (nm i) ≠ some .local := fun z' => by
            have : scope.names.lookup (nm i) = some .local := z'
            rw [z] at this; cases this
          rw [d]
          exact congrArg Data.cell (y2 nl)
      · have := cA y c hc
        obtain ⟨oc, g, d⟩ := x.cell _ _ hc
        exact ⟨fun m => P.there _ m (Heap.get?_none_of_le (Nat.le_of_lt this)), Nat.le_trans big (Nat.le_of_lt this), Nat.ne_of_gt this, oc, _, g, d⟩
    have oN : ∀ b, own (envOfC qual scope s.heap.objs.size f cdv) b → s.heap.get? b = none := fun b ob => by
      rcases ob with rfl | ⟨y, _, hc⟩
      · exact size_none _
      · exact Heap.get?_none_of_le (Nat.le_of_lt (cA y b hc))
    have a' : Ax (A.deeper (envOfC qual scope s.heap.objs.size f cdv)) (envOfC qual scope s.heap.objs.size f cdv :: fs) k :=
      ⟨a.hh, Around.frames_deeper a.fr, by have := a.dp; show A.depth + 1 + k < _; omega, by have := a.un; show A.units + 3 + 8 * k < _; omega⟩
    have back : ∀ ρ' h', StepX (own (envOfC qual scope s.heap.objs.size f cdv)) ρ h₁ ρ' h' → Step ρ s.heap ρ' h' := fun ρ' h' S' =>
      ⟨S'.pre, fun b ob g n => S'.kept b ob (kp b ob g) n (fun ob' => by rw [oN b ob'] at g; cases g), fun b m n => none_of' kp (S'.new b m n)⟩
    generalize hr : b (ps.zip vs) H = res at e
    have main : ∀ oc σ' H'', b (ps.zip vs) H = some (oc, σ', H'') → outOf (some (oc, σ', H'')) = some (o, H') → wpAny (model PG w) (A.deeper (envOfC qual scope s.heap.objs.size f cdv)) (execs body (envOfC qual scope s.heap.objs.size f cdv))
        (fun f s' => R (.ok (.ret (match f with | .ret v => v | _ => .none))) s')
        (fun e s' => wpAny (model PG w) (A.deeper (envOfC qual scope s.heap.objs.size f cdv)) (leaving (envOfC qual scope s.heap.objs.size f cdv) e) (fun _ s'' => R (.error e) s'') (fun e' s'' => R (.error e') s'') s') { s with heap := h₁, toks := tk } := by
      intro oc σ' H'' hr he
      refine hb _ W a' I hr (fun ρ' h' tk' fl S' I' hfl => ?_) fun q' h' tk' ea tr z SE X => ?_
      · cases oc with
        | next => obtain rfl : fl = .next := hfl; cases he; exact q _ ρ' h' tk' _ rfl (back _ _ S') I'.hp (by unfold AVis; rfl)
        | cont => cases he
        | ret v => obtain ⟨r, rfl, av⟩ := hfl; cases he; exact q _ ρ' h' tk' _ rfl (back _ _ S') I'.hp av
        | exc q => exact hfl.elim
      · subst z
        cases he
        have dm : ∀ b, h₁.get? b = none → s.heap.get? b = none := fun b n => by
          cases z : s.heap.get? b with
          | none => rfl
          | some ob => rw [kp b ob z] at n; cases n
        refine leaving_ok (h₀ := h₁) (Around.frames_deeper a.fr) SE.frs (fun g mg L hL => ?_) rfl X fun h'' X' kk fr => ?_
        · obtain ⟨o', g', _⟩ := funFrames_get F₁.frs g mg L hL
          rw [g']; simp
        · refine qe _ h'' tk' ea true rfl ⟨fun b ob g n _ => ?_, fun b ob g => ?_, fr.2.2⟩ (X'.base dm)
          · have no : ¬ own (envOfC qual scope s.heap.objs.size f cdv) b := fun z => by rw [oN b z] at g; cases g
            obtain ⟨⟨sl, x1⟩, x2⟩ := SE.kept b ob (kp b ob g) n no
            have n₁ : h₁.get? b ≠ none := by rw [kp b ob g]; simp
            obtain ⟨⟨sl', y1⟩, _⟩ := kk b _ n₁ x1
            refine ⟨⟨sl', y1⟩, fun nf => ?_⟩
            have nf' : ∀ g' ∈ envOfC qual scope s.heap.objs.size f cdv :: fs, g'.frame ≠ some b := fun g' m z => by
              rcases List.mem_cons.mp m with rfl | m
              · cases z
                exact no (.inl rfl)
              · exact nf g' m z
            exact (kk b ob n₁ (x2 nf')).2 nf'
          · have n₁ : h₁.get? b ≠ none := by rw [kp b ob (P.stay b ob g)]; simp
            refine (kk b ob n₁ (SE.stay b ob g)).2 fun g' m z => ?_
            exact absurd (Heap.lt_size g) (Nat.not_lt.mpr (F₁.frB g' m b z))
    cases res with
    | none => cases e
    | some r => obtain ⟨oc, σ', H''⟩ := r; exact main oc σ' H'' hr e
  · cases e
end
end Mine
end
/-! part D9 -/
section
open PySem PySem.W PyProof.Rows
set_option maxRecDepth 100000
set_option linter.unusedVariables false
namespace Mine
section
variable {w : World} {base : Heap} {k : Nat} {env : Env}

/-! names that stand -/
noncomputable def DenC (w : World) (base : Heap) (env : Env) (e : Expr) (c : Value) : Prop :=
  ∀ ⦃A : Around⦄ ⦃fs : List Env⦄ ⦃σ : AS⦄ ⦃ρ : List Addr⦄ ⦃H : AH⦄ ⦃s : Shared⦄ ⦃Q : Value → Shared → Prop⦄ ⦃E : Value → Shared → Prop⦄,
    Wd w base → Inv w base env fs σ ρ H s.heap → Q c s → wpAny (model PG w) A (eval e env) Q E s
theorem cGlob_ok {x : Str} {p : Pos} {c : Value} (hx : env.kindOf x = some .globalImplicit) (hv : ∀ P, nsIn (hd.heap_39 P) mainGlobals x = some (some c)) (hd' : (x == ("__debug__" : Str)) = false) : DenC w base env (.Name x p) c := by
  intro A fs σ ρ H s Q E W I q
  obtain ⟨mean, mg, mb, T⟩ := W.T
  refine Calls.Name_function_global I.envk hx ?_ hd'
  exact Calls.loadGlobal_global (mg := mg) (by rw [I.envg]; exact T.g.keeps I.hp.stay) (mg_of W.X T.g (hv _)) q
theorem cBoot_ok {x : Str} {p : Pos} {c : Value} (hx : env.kindOf x = some .globalImplicit) (hv : ∀ P, nsIn (hd.heap_39 P) mainGlobals x = some none) (hb : bootBuiltins x = some c) (hn : x ≠ "__name__") (hd' : (x == ("__debug__" : Str)) = false) : DenC w base env (.Name x p) c := by
  intro A fs σ ρ H s Q E W I q
  obtain ⟨mean, mg, mb, T⟩ := W.T
  refine Calls.Name_function_global I.envk hx ?_ hd'
  exact Calls.loadGlobal_builtin (mg := mg) (mb := mb) (by rw [I.envg]; exact T.g.keeps I.hp.stay) (mg_none_of W.X T.g (hv _)) (by rw [I.envb]; exact T.b.keeps I.hp.stay) ((T.builtins x hn).trans hb) q

mutual
noncomputable def avK (K : Frag) : AV → Value → Bool
  | .none, v => v == .none
  | .bool b, .bool c => b == c
  | .int i, .int j _ => i == j
  | .tup l, .ref a => (match K.lookup a with
    | some ⟨c, _, .seq ws _, _⟩ => c == .type "tuple" && avKs K l ws.toList
    | _ => false)
  | _, _ => false
noncomputable def avKs (K : Frag) : List AV → List Value → Bool
  | [], ws => ws == []
  | a :: l, w :: r => avK K a w && avKs K l r
  | _ :: _, [] => false
end
mutual
theorem avK_ok {K : Frag} {h : Heap} {ρ : List Addr} (X : K.In h) : ∀ {a : AV} {v : Value}, avK K a v = true → AVis h ρ a v
  | .none, v, e => by unfold avK at e; unfold AVis; exact eq_of_beq e
  | .bool b, v, e => by
    unfold avK at e; unfold AVis
    split at e <;> first | (cases e; done) | skip
    · rename_i q; cases q
    · rename_i q; cases q; rw [eq_of_beq e]
    · rename_i q; cases q
    · rename_i q; cases q
  | .int i, v, e => by
    unfold avK at e; unfold AVis
    split at e <;> first | (cases e; done) | skip
    · rename_i q; cases q
    · rename_i q; cases q
    · rename_i q; cases q; exact ⟨_, by rw [eq_of_beq e]⟩
    · rename_i q; cases q
  | .tup l, v, e => by
    unfold avK at e; unfold AVis
    split at e <;> first | (cases e; done) | skip
    · rename_i q; cases q
    · rename_i q; cases q
    · rename_i q; cases q
    · rename_i l' a q
      cases q
      split at e
      · rename_i c d ws n sl hk
        rw [Bool.and_eq_true] at e
        exact ⟨a, _, n, ws, rfl, X _ _ hk, eq_of_beq e.1, rfl, avKs_ok X e.2⟩
      · cases e
  | .ref i, v, e => by unfold avK at e; cases v <;> simp at e
  | .rng a b c, v, e => by unfold avK at e; cases v <;> simp at e
theorem avKs_ok {K : Frag} {h : Heap} {ρ : List Addr} (X : K.In h) : ∀ {l : List AV} {ws : List Value}, avKs K l ws = true → AVall h ρ l ws
  | [], ws, e => by unfold avKs at e; unfold AVall; simpa using e
  | a :: l, [], e => by unfold avKs at e; cases e
  | a :: l, w :: r, e => by
    unfold avKs at e; unfold AVall
    rw [Bool.and_eq_true] at e
    exact ⟨w, r, rfl, avK_ok X e.1, avKs_ok X e.2⟩
end
noncomputable def dK (a : AV) : ED := fun _ H => some (a, H)
theorem dK_ok {x : Str} {p : Pos} {a : AV} (c : Value) (hx : env.kindOf x = some .globalImplicit) (hv : ∀ P, nsIn (hd.heap_39 P) mainGlobals x = some (some c)) (ha : ∀ P, avK (hd.heap_39 P) a c = true) (hd' : (x == ("__debug__" : Str)) = false) :
    DenE w base k env (.Name x p) (dK a) := by
  intro A fs σ ρ H v H' s Q E W ax I e q
  cases e
  exact cGlob_ok hx hv hd' W I (q ρ s.heap s.toks _ (.refl ..) I.hp (avK_ok (W.X.keeps I.hp.stay) (ha _)))

/-! calls -/
noncomputable def ArgsOk (env : Env) (e : Expr) (es : List Expr) (p : Pos) : Prop := starEach (e :: es) env = (false, eval e env) :: starEach es env ∧ (backTo p (starEach es env)).any (·.1) = false
noncomputable def CallOk (env : Env) (fe : Expr) (args : List Expr) (p : Pos) : Prop := eval (.Call fe args [] p) env = (do callWith p (← eval fe env) [] (backTo p (starEach args env)) (backToKw p (keywordEach [] env)))
noncomputable def xCall (d : FD) (g : LD) : XD := fun σ H => match g σ H with | some (vs, H₁) => d vs H₁ | Option.none => Option.none
theorem StepE.after {fs : List Env} {ρ ρ' : List Addr} {h h' h'' : Heap} (S : Step ρ h ρ' h') (x : StepE base NoOwn fs ρ' h' h'') : StepE base NoOwn fs ρ h h'' :=
  ⟨fun b ob e n no => x.kept b ob (S.kept b ob e n) (fun m => by have := S.new b m n; rw [e] at this; cases this) no, x.stay, x.frs⟩
theorem xCall_ok {a : Addr} {fe e : Expr} {es : List Expr} {p : Pos} {d : FD} {g : LD} (hc : DenC w base env fe (.ref a)) (hkp : ∀ P, keepIn (hd.heap_39 P) (.ref a) = true) (hF : DenF w base k a d) (hl : DenL w base k env (e :: es) g)
    (ho : CallOk env fe (e :: es) p) (ha : ArgsOk env e es p) : DenX w base k env (.Call fe (e :: es) [] p) (xCall d g) := by
  intro A fs σ ρ H o H' s Q E W ax I e q qe
  unfold xCall at e
  split at e
  · rename_i vs H₁ h1
    refine PyProof.Rows.Call_ (hc W I (callWith_K W.X (hkp _) (hl W ax I h1 fun ρ₁ g₁ t₁ r₁ S₁ P₁ v₁ => ⟨W.X.keeps P₁.stay, wpAny_call ?_⟩) ha.1 ha.2)) ho
    have I₁ := I.next S₁ P₁
    refine hF (s := { s with heap := g₁, toks := t₁ }) W ax P₁ I₁.fok v₁ e (fun v ρ' h' tk r z S P av => ?_) fun q' h' tk e tr z SE X => ?_
    · exact q v ρ' h' tk r z (S₁.trans S) P av
    · exact qe q' h' tk e tr z (SE.after S₁) (X.base (Step.dom S₁ P₁))
  · cases e

/-- one argument -/
theorem lOne {e : Expr} {f : ED} (hf : DenE w base k env e f) (he : starEach [e] env = (false, eval e env) :: starEach [] env) : DenL w base k env [e] (lCons f lNil) := lCons_ok hf lNil_ok he
noncomputable def dLen (f : ED) : ED := fun σ H => match f σ H with
  | some (.ref j, H₁) => (match H₁[j]? with | some (.list l) => if l.length ≤ 1000 then some (.int l.length, H₁) else Option.none | _ => Option.none)
  | _ => Option.none
theorem dLen_ok {fe e : Expr} {p : Pos} {f : ED} (hc : DenC w base env fe (.builtin "len")) (hf : DenE w base k env e f) (ho : CallOk env fe [e] p) (ha : ArgsOk env e [] p) : DenE w base k env (.Call fe [e] [] p) (dLen f) := by
  intro A fs σ ρ H v H' s Q E W ax I e q
  unfold dLen at e
  split at e
  · rename_i j H₁ h1
    split at e
    · rename_i l hj
      split at e
      · rename_i hn
        cases e
        refine PyProof.Rows.Call_ (hc W I (PyProof.Rows.callWith_builtin1 (lOne hf ha.1 (v := [.ref j]) (H' := H') W ax I (by unfold lCons lNil; rw [h1]) fun ρ₁ g₁ t₁ r₁ S₁ P₁ v₁ => ?_) ha.1 ha.2)) ho
        unfold AVall at v₁
        obtain ⟨x, xs, rfl, a₁, a₂⟩ := v₁
        unfold AVall at a₂; subst a₂
        unfold AVis at a₁
        obtain ⟨c, hc', rfl⟩ := a₁
        obtain ⟨ws, hp, al⟩ := P₁.at' j c _ hc' hj
        have ln : ws.size = l.length := by rw [← al.len]; simp
        refine Calls.call_len_list (s := { s with heap := g₁, toks := t₁ }) hp.isList (by omega) ?_
        exact q ρ₁ g₁ _ _ S₁ P₁ (by unfold AVis; exact ⟨_, by rw [ln]⟩)
      · cases e
    · cases e
  · cases e
noncomputable def dAbs (f : ED) : ED := fun σ H => match f σ H with
  | some (.int x, H₁) => some (.int (if x < 0 then -x else x), H₁)
  | _ => Option.none
theorem dAbs_ok {fe e : Expr} {p : Pos} {f : ED} (hc : DenC w base env fe (.builtin "abs")) (hf : DenE w base k env e f) (ho : CallOk env fe [e] p) (ha : ArgsOk env e [] p) : DenE w base k env (.Call fe [e] [] p) (dAbs f) := by
  intro A fs σ ρ H v H' s Q E W ax I e q
  unfold dAbs at e
  split at e
  · rename_i x H₁ h1
    cases e
    refine PyProof.Rows.Call_ (hc W I (PyProof.Rows.callWith_builtin1 (lOne hf ha.1 (v := [.int x]) (H' := H') W ax I (by unfold lCons lNil; rw [h1]) fun ρ₁ g₁ t₁ r₁ S₁ P₁ v₁ => ?_) ha.1 ha.2)) ho
    unfold AVall at v₁
    obtain ⟨y, xs, rfl, a₁, a₂⟩ := v₁
    unfold AVall at a₂; subst a₂
    unfold AVis at a₁
    obtain ⟨t, rfl⟩ := a₁
    exact PyProof.Rows.call_abs_int (s := { s with heap := g₁, toks := t₁ }) fun u tk => q ρ₁ g₁ _ _ S₁ P₁ (by unfold AVis; exact ⟨_, rfl⟩)
  · cases e
noncomputable def dRange (g : LD) : ED := fun σ H => match g σ H with
  | some ([.int n], H₁) => some (.rng 0 n 1, H₁)
  | some ([.int a, .int b], H₁) => some (.rng a b 1, H₁)
  | some ([.int a, .int b, .int c], H₁) => if c = -1 then some (.rng a b c, H₁) else Option.none
  | _ => Option.none
theorem dRange_ok {fe e : Expr} {es : List Expr} {p : Pos} {g : LD} (hc : DenC w base env fe (.type "range")) (hl : DenL w base k env (e :: es) g) (ho : CallOk env fe (e :: es) p) (ha : ArgsOk env e es p) : DenE w base k env (.Call fe (e :: es) [] p) (dRange g) := by
  intro A fs σ ρ H v H' s Q E W ax I e q
  have rngIs : ∀ {ρ : List Addr} {h : Heap} {a b c : Int} {t u v : Tok}, AVis (h.push { cls := .type "range", data := .fields #[.int a t, .int b u, .int c v] }) ρ (.rng a b c) (.ref h.objs.size) := by
    intros; unfold AVis; exact ⟨_, _, _, _, rfl, IsRange.new _ _ _ _ _ _ _⟩
  unfold dRange at e
  split at e
  · rename_i n H₁ h1
    cases e
    refine PyProof.Rows.Call_ (hc W I (PyProof.Rows.callWith_type1 (hl W ax I h1 fun ρ₁ g₁ t₁ r₁ S₁ P₁ v₁ => ?_) ha.1 ha.2)) ho
    unfold AVall at v₁
    obtain ⟨y, xs, rfl, a₁, a₂⟩ := v₁
    unfold AVall at a₂; subst a₂
    unfold AVis at a₁
    obtain ⟨t, rfl⟩ := a₁
    refine call_range_1 (s := { s with heap := g₁, toks := t₁ }) ?_
    have kp : ∀ b o, g₁.get? b = some o → (g₁.push { cls := .type "range", data := .fields #[.int 0 t₁, .int n t, .int 1 (t₁ + 1)] }).get? b = some o := fun b o g => Heap.get?_push_of_some _ g
    exact q ρ₁ _ _ _ (S₁.trans (Step.keeps kp)) (P₁.keeps kp) rngIs
  · rename_i a b H₁ h1
    cases e
    refine PyProof.Rows.Call_ (hc W I (PyProof.Rows.callWith_type1 (hl W ax I h1 fun ρ₁ g₁ t₁ r₁ S₁ P₁ v₁ => ?_) ha.1 ha.2)) ho
    unfold AVall at v₁
    obtain ⟨y, xs, rfl, a₁, a₂⟩ := v₁
    unfold AVall at a₂
    obtain ⟨y', xs, rfl, a₂, a₃⟩ := a₂
    unfold AVall at a₃; subst a₃
    unfold AVis at a₁ a₂
    obtain ⟨t, rfl⟩ := a₁
    obtain ⟨u, rfl⟩ := a₂
    refine call_range_2 (s := { s with heap := g₁, toks := t₁ }) ?_
    have kp : ∀ c o, g₁.get? c = some o → (g₁.push { cls := .type "range", data := .fields #[.int a t, .int b u, .int 1 t₁] }).get? c = some o := fun b o g => Heap.get?_push_of_some _ g
    exact q ρ₁ _ _ _ (S₁.trans (Step.keeps kp)) (P₁.keeps kp) rngIs
  · rename_i a b c H₁ h1
    split at e
    · rename_i hc1
      cases e
      subst hc1
      refine PyProof.Rows.Call_ (hc W I (PyProof.Rows.callWith_type1 (hl W ax I h1 fun ρ₁ g₁ t₁ r₁ S₁ P₁ v₁ => ?_) ha.1 ha.2)) ho
      unfold AVall at v₁
      obtain ⟨y, xs, rfl, a₁, a₂⟩ := v₁
      unfold AVall at a₂
      obtain ⟨y', xs, rfl, a₂, a₃⟩ := a₂
      unfold AVall at a₃
      obtain ⟨y'', xs, rfl, a₃, a₄⟩ := a₃
      unfold AVall at a₄; subst a₄
      unfold AVis at a₁ a₂ a₃
      obtain ⟨t, rfl⟩ := a₁
      obtain ⟨u, rfl⟩ := a₂
      obtain ⟨x, rfl⟩ := a₃
      refine call_range_3 (s := { s with heap := g₁, toks := t₁ }) (by decide) ?_ (.inl (PyProof.noPylong_small (by decide)))
      have kp : ∀ c o, g₁.get? c = some o → (g₁.push { cls := .type "range", data := .fields #[.int a t, .int b u, .int (-1) x] }).get? c = some o := fun b o g => Heap.get?_push_of_some _ g
      exact q ρ₁ _ _ _ (S₁.trans (Step.keeps kp)) (P₁.keeps kp) rngIs
    · cases e
  · cases e

/-! append -/
noncomputable def dApp (f g : ED) : ED := fun σ H => match f σ H with
  | some (.ref j, H₁) => (match H₁[j]? with
    | some (.list _) => (match g σ H₁ with
      | some (v, H₂) => (match H₂[j]? with
        | some (.list l) => if l.length ≤ 1000 then some (.none, H₂.set j (.list (l ++ [v]))) else Option.none
        | _ => Option.none)
      | Option.none => Option.none)
    | _ => Option.none)
  | _ => Option.none
theorem dApp_ok {o e : Expr} {p p' : Pos} {f g : ED} (hf : DenE w base k env o f) (hg : DenE w base k env e g) (h1 : attributeBase o "append" env (eval o env) = eval o env)
    (h2 : ((backTo p (starEach [e] env)).all (fun x => !x.1) && (backToKw p (keywordEach [] env)).all (fun x => x.1.isSome) && decide (([e] : List Expr).length + ([] : List Keyword).length + (if ([] : List Keyword).isEmpty then 0 else 1) < 30)) = true)
    (h3 : (p'.endLine == p.line) = true) (h4 : backTo p (starEach [e] env) = [(false, eval e env)]) : DenE w base k env (.Call (.Attribute o "append" p') [e] [] p) (dApp f g) := by
  intro A fs σ ρ H v H' s Q E W ax I e q
  unfold dApp at e
  split at e
  · rename_i j H₁ e1
    split at e
    · rename_i l₀ hj₀
      split at e
      · rename_i v H₂ e2
        split at e
        · rename_i l hj
          split at e
          · rename_i hn
            cases e
            refine wpAny_Call_append h1 h2 h3 h4 (hf W ax I e1 fun ρ₁ g₁ t₁ r₁ S₁ P₁ v₁ => ?_)
            unfold AVis at v₁
            obtain ⟨c, hc, rfl⟩ := v₁
            obtain ⟨ws₀, ⟨n₀, hp₀⟩, al₀⟩ := P₁.at' j c _ hc hj₀
            refine ⟨c, ws₀, rfl, ⟨_, _, hp₀, rfl, rfl, rfl⟩, hg W ax (I.next S₁ P₁) e2 fun ρ₂ g₂ t₂ r₂ S₂ P₂ v₂ => ?_⟩
            have hc₂ := pre_get S₂.pre hc
            obtain ⟨ws, hp, al⟩ := P₂.at' j c _ hc₂ hj
            have ln : ws.size = l.length := by rw [← al.len]; simp
            refine wpAny_list_append_plain (s := { s with heap := g₂, toks := t₂ }) hp (fun h' hp' sb => ?_) (by rw [sizeLine_eq]; omega)
            have kp : ∀ b o, b ≠ c → g₂.get? b = some o → h'.get? b = some o := fun b o nb e => (sb.2 b nb).trans e
            have pl : Plain g₂ h' := P₂.plain fun b o g nb => kp b o (fun z => nb (z ▸ List.mem_of_getElem? hc₂)) g
            refine q ρ₂ h' _ _ ((S₁.trans S₂).trans (Step.upd hc₂ kp)) (P₂.upd hc₂ kp ⟨_, hp', ?_⟩) (by unfold AVis; rfl)
            rw [Array.toList_push]
            exact (al.mono pl ⟨[], by simp⟩).append (.cons (v₂.mono pl ⟨[], by simp⟩) .nil)
          · cases e
        · cases e
      · cases e
    · cases e
  · cases e

/-! making an object of a class -/
noncomputable def xNew (C : Nat) (d : FD) (g : LD) : XD := fun σ H => match g σ H with
  | some (vs, H₁) => (match d (.ref (H₁.length + 1) :: vs) (H₁ ++ [.dict []] ++ [.inst C H₁.length]) with
    | some (.val .none, H₂) => some (.val (.ref (H₁.length + 1)), H₂)
    | _ => Option.none)
  | Option.none => Option.none
theorem ax_under {A : Around} {fs : List Env} {C : Addr} {vs : List Value} (a : Ax A fs (k + 1)) : Ax (A.under (.builtin "type.__call__" ⟨.ref C :: vs, []⟩)) fs k :=
  ⟨a.hh, a.fr, by have := a.dp; have e : (A.under (.builtin "type.__call__" ⟨.ref C :: vs, []⟩)).depth = A.depth + 1 := rfl; omega, by have := a.un; have e : (A.under (.builtin "type.__call__" ⟨.ref C :: vs, []⟩)).units = A.units + 1 := rfl; omega⟩
theorem xNew_ok {C fI : Addr} {fe e : Expr} {es : List Expr} {p : Pos} {d : FD} {g : LD} (hc : DenC w base env fe (.ref C)) (hkp : ∀ P, keepIn (hd.heap_39 P) (.ref C) = true) (hm : ∀ P, makesIn (hd.heap_39 P) C = true)
    (hi : ∀ P, findIn (hd.heap_39 P) (.ref C) "__init__" = some (some (.ref fI))) (hf : ∀ P, typeIn (hd.heap_39 P) (.ref fI) = some (.type "function"))
    (hF : DenF w base k fI d) (hl : DenL w base (k + 1) env (e :: es) g) (ho : CallOk env fe (e :: es) p) (ha : ArgsOk env e es p) : DenX w base (k + 1) env (.Call fe (e :: es) [] p) (xNew C d g) := by
  intro A fs σ ρ H o H' s Q E W ax I e q qe
  unfold xNew at e
  split at e
  · rename_i vs H₁ h1
    split at e
    · rename_i H₂ h2
      cases e
      refine PyProof.Rows.Call_ (hc W I (callWith_K W.X (hkp _) (hl W ax I h1 fun ρ₁ g₁ t₁ r₁ S₁ P₁ v₁ => ⟨W.X.keeps P₁.stay, wpAny_call ?_⟩) ha.1 ha.2)) ho
      have I₁ := I.next S₁ P₁
      have X₁ := W.X.keeps P₁.stay
      have big := I₁.fok.big
      refine make_core (makes_of X₁ (hm _)) (looks_findIn X₁ (hi _)) (fun self => bind_fn X₁ self (hf _)) (.inl rfl) ?_
      obtain ⟨S₂, P₂, v₂⟩ := newObj_ok (o := emptyDict) (ao := .dict []) P₁ big ⟨[], 0, Heap.get?_push_size _ rfl, by unfold EntAll; rfl⟩
      have big₂ : base.objs.size ≤ (g₁.push emptyDict).objs.size := by rw [Heap.size_push]; omega
      unfold AVis at v₂
      obtain ⟨dx, hdx, edx⟩ := v₂
      cases edx
      have hdx' : (ρ₁ ++ [g₁.objs.size] ++ [(g₁.push emptyDict).objs.size])[H₁.length]? = some g₁.objs.size := pre_get ⟨_, rfl⟩ hdx
      obtain ⟨S₃, P₃, v₃⟩ := newObj_ok (o := instObj C g₁.objs.size) (ao := .inst C H₁.length) P₂ big₂ ⟨_, hdx', Heap.get?_push_size _ rfl⟩
      have sz : (g₁.push emptyDict).objs.size = g₁.objs.size + 1 := Heap.size_push ..
      have lz : (H₁ ++ [AO.dict []]).length = H₁.length + 1 := by simp
      rw [lz, sz] at v₃
      rw [sz] at S₃ P₃
      have S₁₃ := (S₁.trans S₂).trans S₃
      have al : AVall _ _ (.ref (H₁.length + 1) :: vs) (.ref (g₁.objs.size + 1) :: r₁) := .cons v₃ (v₁.mono ((S₂.trans S₃).plain P₁) (S₂.trans S₃).pre)
      have I₃ := I.next S₁₃ P₃
      refine hF (s := { s with heap := (g₁.push emptyDict).push (instObj C g₁.objs.size), toks := t₁ }) W (ax_under ax) P₃ I₃.fok al h2 (fun v ρ' h' tk r z S P av => ?_) fun q' h' tk e tr z SE X => by cases z
      cases z
      unfold AVis at av
      subst av
      refine ⟨rfl, q _ ρ' h' tk _ rfl (S₁₃.trans S) P ?_⟩
      exact v₃.mono (S.plain P₃) S.pre
    · cases e
  · cases e
end
end Mine
end
/-! part D10 -/
section
open PySem PySem.W PyProof.Rows
set_option maxRecDepth 100000
set_option linter.unusedVariables false
namespace Mine
section
variable {w : World} {base : Heap} {k : Nat} {env : Env}

/-- one object outside the numbered ones changes -/
theorem Inv.but {fs : List Env} {σ : AS} {ρ : List Addr} {H : AH} {h h' : Heap} {x : Addr} (I : Inv w base env fs σ ρ H h) (pl : Plain h h') (nx : x ∉ ρ) (nl : x ≠ env.locals) (nc : ∀ y, env.cells.lookup y ≠ some x) (nf : ∀ f ∈ fs, f.frame ≠ some x) (nb : base.objs.size ≤ x)
    (kp : ∀ b o, b ≠ x → h.get? b = some o → h'.get? b = some o) : Inv w base env fs σ ρ H h' := by
  refine ⟨?_, ?_, I.locF, I.locB, ?_, I.cinj, ?_, I.envk, I.envg, I.envb⟩
  · refine ⟨I.hp.len, I.hp.nodup, I.hp.fresh, fun b o e => kp b o (fun z => ?_) (I.hp.stay b o e), fun j a ao ea eh => (I.hp.at' j a ao ea eh).mono pl ⟨[], by simp⟩ fun o e => kp a o (fun z => nx (z ▸ List.mem_of_getElem? ea)) e⟩
    subst z
    exact absurd (Heap.lt_size e) (Nat.not_lt.mpr nb)
  · obtain ⟨m, ⟨oL, es, ep, gL, r⟩, hv⟩ := I.vars
    refine ⟨m, ⟨oL, es, ep, kp _ _ (Ne.symm nl) gL, r⟩, fun j v' e => ?_⟩
    obtain ⟨lt', r', av', u⟩ := hv j v' e
    refine ⟨lt', r', av'.mono pl ⟨[], by simp⟩, u.imp id fun ⟨u1, c', o, u2, u3, u4⟩ => ⟨u1, c', o, u2, kp c' o (fun z => nc _ (z ▸ u2)) u3, u4⟩⟩
  · intro y c cl
    obtain ⟨a, b, d, o, v', g, z⟩ := I.cells y c cl
    exact ⟨a, b, d, o, v', kp c o (fun z' => nc y (z' ▸ cl)) g, z⟩
  · refine ⟨funFrames_re I.fok.frs fun e me L f => ?_, I.fok.frF, I.fok.frB, I.fok.ne⟩
    obtain ⟨o, g, d⟩ := funFrames_get I.fok.frs e me L f
    exact ⟨o, kp L o (fun z => nf e me (z ▸ f)) g, d⟩

/-! iterators -/
noncomputable def rngL (a c : Int) : Nat → List AV
  | 0 => []
  | n + 1 => .int a :: rngL (a + c) c n
noncomputable def itemsOf : AV → Option (List AV)
  | .rng a b c => if Builtin.Range.small a b c then some (rngL a c (Builtin.Range.rangeSize a b c).toNat) else Option.none
  | .tup l => some l
  | _ => Option.none
noncomputable def ItSt (h : Heap) (ρ : List Addr) (it : Addr) (vs : List AV) : Prop :=
  (∃ x left c, IsRangeIter h it x left c ∧ vs = rngL x c left.toNat) ∨
  (∃ t o n ws i, h.IsTupleIter it t i ∧ t ≠ it ∧ h.get? t = some o ∧ o.cls = .type "tuple" ∧ o.data = .seq ws n ∧ AVall h ρ vs (ws.toList.drop i))
theorem ItSt.mono {h h' : Heap} {ρ ρ' : List Addr} {it : Addr} {vs : List AV} (pl : Plain h h') (p : ∃ x, ρ' = ρ ++ x) (ki : ∀ o, h.get? it = some o → h'.get? it = some o) (x : ItSt h ρ it vs) : ItSt h' ρ' it vs := by
  rcases x with ⟨x, left, c, a, b⟩ | ⟨t, o, n, ws, i, ⟨o', a1, a2, a3⟩, a4, a5, a6, a7, a8⟩
  · exact .inl ⟨x, left, c, ki _ a, b⟩
  · exact .inr ⟨t, o, n, ws, i, ⟨o', ki _ a1, a2, a3⟩, a4, pl _ _ a5 (.inl ⟨a6, _, _, a7⟩), a6, a7, a8.mono pl p⟩
/-- the iterator is no tuple, no range -/
theorem ItSt.plain {h h' : Heap} {ρ : List Addr} {it : Addr} {vs : List AV} (x : ItSt h ρ it vs) (kp : ∀ b o, b ≠ it → h.get? b = some o → h'.get? b = some o) : Plain h h' := fun b o e c => by
  refine kp b o (fun z => ?_) e
  subst z
  rcases x with ⟨x, left, c', a, _⟩ | ⟨t, o', n, ws, i, ⟨o'', a1, a2, a3⟩, _⟩
  · have a : h.get? b = some _ := a
    rw [e] at a; cases a
    rcases c with ⟨c, _⟩ | ⟨c, _⟩ <;> simp at c
  · rw [e] at a1; cases a1
    rw [a2] at c
    rcases c with ⟨c, _⟩ | ⟨c, _⟩ <;> simp at c
theorem it_none {A : Around} {s : Shared} {ρ : List Addr} {it : Addr} {Q : Option Value → Shared → Prop} {E : Value → Shared → Prop} (hh : A.handled = none) (x : ItSt s.heap ρ it []) (q : ∀ h', (∀ b o, b ≠ it → s.heap.get? b = some o → h'.get? b = some o) → Q none { s with heap := h' }) :
    wpAny (model PG w) A (pyNext (.ref it)) Q E s := by
  rcases x with ⟨x, left, c, a, b⟩ | ⟨t, o, n, ws, i, a1, a4, a5, a6, a7, a8⟩
  · refine wpAny_pyNext_range_end hh a ?_ fun h' e => q h' fun b o nb g => e b o nb g
    cases hl : left.toNat with
    | zero => omega
    | succ n => rw [hl] at b; cases b
  · refine wpAny_pyNext_tuple_end hh a1 ⟨o, a5, a6, n, a7⟩ ?_ fun h' e => q h' fun b o nb g => e b o nb g
    unfold AVall at a8
    have := List.drop_eq_nil_iff.mp a8
    rw [← Array.getElem?_toList]
    exact List.getElem?_eq_none this
theorem it_some {A : Around} {s : Shared} {ρ : List Addr} {it : Addr} {v : AV} {r : List AV} {Q : Option Value → Shared → Prop} {E : Value → Shared → Prop} (x : ItSt s.heap ρ it (v :: r))
    (q : ∀ h' tk y, AVis h' ρ v y → ItSt h' ρ it r → (∀ b o, b ≠ it → s.heap.get? b = some o → h'.get? b = some o) → Q (some y) { s with heap := h', toks := tk }) :
    wpAny (model PG w) A (pyNext (.ref it)) Q E s := by
  have x' := id x
  rcases x with ⟨x, left, c, a, b⟩ | ⟨t, o, n, ws, i, a1, a4, a5, a6, a7, a8⟩
  · cases hl : left.toNat with
    | zero => rw [hl] at b; cases b
    | succ n =>
      rw [hl] at b; cases b
      refine wpAny_pyNext_range_item a (by omega) fun h' hi sb => ?_
      exact q h' _ _ (by unfold AVis; exact ⟨_, rfl⟩) (.inl ⟨_, _, _, hi, by congr 1; omega⟩) fun b o nb g => (sb.2 b nb).trans g
  · have hlt : i < ws.size := by
      rcases Nat.lt_or_ge i ws.size with z | z
      · exact z
      · have : ws.toList.drop i = [] := List.drop_eq_nil_iff.mpr (by simpa using z)
        rw [this] at a8
        unfold AVall at a8
        obtain ⟨_, _, z, _⟩ := a8
        cases z
    have hd := List.drop_eq_getElem_cons (l := ws.toList) (i := i) (by simpa using hlt)
    rw [hd] at a8
    unfold AVall at a8
    obtain ⟨y, ys, e, av, al⟩ := a8
    cases e
    refine wpAny_pyNext_tuple_item a1 ⟨o, a5, a6, n, a7⟩ (by rw [← Array.getElem?_toList]; exact List.getElem?_eq_getElem (by simpa using hlt)) fun h' hi sb => ?_
    have kp : ∀ b o, b ≠ it → s.heap.get? b = some o → h'.get? b = some o := fun b o nb g => (sb.2 b nb).trans g
    have pl := x'.plain kp
    exact q h' s.toks _ (av.mono pl ⟨[], by simp⟩) (.inr ⟨t, o, n, ws, i + 1, hi, a4, kp _ _ a4 a5, a6, a7, al.mono pl ⟨[], by simp⟩⟩) kp
theorem iter_ok {A : Around} {s : Shared} {ρ : List Addr} {v : AV} {r : Value} {vs : List AV} {Q : Value → Shared → Prop} {E : Value → Shared → Prop} (e : itemsOf v = some vs) (av : AVis s.heap ρ v r)
    (q : ∀ h', (∀ b o, s.heap.get? b = some o → h'.get? b = some o) → s.heap.get? s.heap.objs.size = none → ItSt h' ρ s.heap.objs.size vs → Q (.ref s.heap.objs.size) { s with heap := h' }) : wpAny (model PG w) A (pyIter r) Q E s := by
  unfold itemsOf at e
  split at e
  · rename_i a b c
    split at e
    · rename_i hs
      cases e
      unfold AVis at av
      obtain ⟨r', t, u, x, rfl, hr⟩ := av
      exact wpAny_pyIter_range hr hs (q _ (fun b o g => Heap.get?_push_of_some _ g) (size_none _) (.inl ⟨_, _, _, Heap.get?_push_size _ rfl, rfl⟩))
    · cases e
  · cases e
    unfold AVis at av
    obtain ⟨t, o, n, ws, rfl, a5, a6, a7, a8⟩ := av
    have kp : ∀ b o', s.heap.get? b = some o' → (s.heap.push { cls := .type "tuple_iterator", data := .fields #[.ref t, .int 0 0] }).get? b = some o' := fun b o' g => Heap.get?_push_of_some _ g
    refine wpAny_pyIter_tuple ⟨o, a5, a6, n, a7⟩ (q _ kp (size_none _) (.inr ⟨t, o, n, ws, 0, ⟨_, Heap.get?_push_size _ rfl, rfl, rfl⟩, Nat.ne_of_lt (Heap.lt_size a5), kp _ _ a5, a6, a7, ?_⟩))
    rw [List.drop_zero]
    exact a8.mono (fun b o' g _ => kp b o' g) ⟨[], by simp⟩
  · cases e

/-! loops -/
theorem StepE.more {fs : List Env} {o : Addr → Prop} {ρ : List Addr} {h h' h'' : Heap} (x : StepE base o fs ρ h h') (F : Fok base fs ρ h) (sb : base.StaysIn h) (kk : KeptE fs h h' h'') (fr : h''.FunFrames base fs) : StepE base o fs ρ h h'' := by
  refine ⟨fun b ob g n no => ?_, fun b ob g => ?_, fr⟩
  · obtain ⟨⟨sl, x1⟩, x2⟩ := x.kept b ob g n no
    have n₁ : h.get? b ≠ none := by rw [g]; simp
    obtain ⟨⟨sl', y1⟩, _⟩ := kk b _ n₁ x1
    exact ⟨⟨sl', y1⟩, fun nf => (kk b ob n₁ (x2 nf)).2 nf⟩
  · have n₁ : h.get? b ≠ none := by rw [sb b ob g]; simp
    exact (kk b ob n₁ (x.stay b ob g)).2 fun g' m z => absurd (Heap.lt_size g) (Nat.not_lt.mpr (F.frB g' m b z))
/-- an error leaves a loop's body -/
theorem loop_out {A : Around} {outer : List Env} {σ : AS} {ρ : List Addr} {H : AH} {h : Heap} {L : Addr} {q : Int} {h' : Heap} {tk : Nat} {e : Addr} {tr : Bool} {s : Shared} {o : Addr → Prop} {E : Value → Shared → Prop} (I : Inv w base env (env :: outer) σ ρ H h) (a : Ax A (env :: outer) k) (hf : env.frame = some L)
    (SE : StepE base o (env :: outer) ρ h h') (X : ExcAt h h' e q tr)
    (qe : ∀ h'' tk tr, StepE base o (env :: outer) ρ h h'' → ExcAt h h'' e q tr → E (.ref e) { s with heap := h'', toks := tk }) :
    notedBy (model PG w) A env (cameBackBy (model PG w) A env E) (.ref e) { s with heap := h', toks := tk } := by
  unfold notedBy
  refine note_ok (h₀ := h) a.fr SE.frs (fun g mg L hL => ?_) hf X fun h₁ X₁ k₁ f₁ => ?_
  · obtain ⟨o', g', _⟩ := funFrames_get I.fok.frs g mg L hL
    rw [g']; simp
  · have SE₁ := SE.more I.fok I.hp.stay k₁ f₁
    exact back_ok (s := { s with heap := h₁, toks := tk }) hf f₁ X₁ fun h₂ X₂ k₂ f₂ => qe h₂ tk true (SE₁.more I.fok I.hp.stay k₂ f₂) X₂

noncomputable def dFor (g : GD) (b : SD) : List AV → SD
  | [] => fun σ H => some (.next, σ, H)
  | v :: r => fun σ H => match g v σ H with
    | some (σ₁, H₁) => (match b σ₁ H₁ with
      | some (.next, σ₂, H₂) => dFor g b r σ₂ H₂
      | some (.cont, σ₂, H₂) => dFor g b r σ₂ H₂
      | x => x)
    | Option.none => Option.none
noncomputable def sFor (f : ED) (g : GD) (b : SD) : SD := fun σ H => match f σ H with
  | some (v, H₁) => (match itemsOf v with | some l => dFor g b l σ H₁ | Option.none => Option.none)
  | Option.none => Option.none
noncomputable def dWhile (t : TD) (b : SD) : Nat → SD
  | 0 => fun _ _ => Option.none
  | n + 1 => fun σ H => match t σ H with
    | some (false, H₁) => some (.next, σ, H₁)
    | some (true, H₁) => (match b σ H₁ with
      | some (.next, σ₂, H₂) => dWhile t b n σ₂ H₂
      | _ => Option.none)
    | Option.none => Option.none
theorem sWhile_ok {t : Expr} {body : List Stmt} {p : Pos} {f : TD} {b : SD} (n : Nat) (ht : DenT w base k env t f) (hb : DenS w base k env (execs body env) b) : DenS w base k env (exec (.While t body [] p) env) (dWhile f b n) := by
  intro A outer σ ρ H oc σ' H' s Q E W a I e q qe
  refine wpAny_While (codeAny_whileLoop (fun m s' => ∃ σ₁ ρ₁ H₁ h₁ tk, s' = { s with heap := h₁, toks := tk } ∧ StepX (own env) ρ s.heap ρ₁ h₁ ∧ Inv w base env (env :: outer) σ₁ ρ₁ H₁ h₁ ∧ dWhile f b m σ₁ H₁ = some (oc, σ', H')) ?_ n ⟨σ, ρ, H, s.heap, s.toks, rfl, .refl .., I, e⟩)
  rintro m s' ⟨σ₁, ρ₁, H₁, h₁, tk, rfl, S₁, I₁, e₁⟩
  cases m with
  | zero => cases e₁
  | succ m =>
    unfold dWhile at e₁
    split at e₁
    · rename_i H₂ h2
      cases e₁
      refine ht W a I₁ h2 fun ρ₂ g₂ t₂ S₂ P₂ => ?_
      rw [if_neg Bool.false_ne_true]
      exact wpAny_execs_nil (q ρ₂ g₂ t₂ _ (S₁.trans (Step.x S₂) (I₁.next S₂ P₂).ownN) (I₁.next S₂ P₂) rfl)
    · rename_i H₂ h2
      split at e₁
      · rename_i σ₂ H₃ h3
        refine ht W a I₁ h2 fun ρ₂ g₂ t₂ S₂ P₂ => ?_
        rw [if_pos rfl]
        have I₂ := I₁.next S₂ P₂
        refine hb W a I₂ h3 (fun ρ₃ g₃ t₃ fl S₃ I₃ hfl => ?_) fun _ _ _ _ _ z => by cases z
        obtain rfl : fl = .next := hfl
        exact ⟨m, Nat.lt_succ_self m, σ₂, ρ₃, H₃, g₃, t₃, rfl, (S₁.trans (Step.x S₂) I₂.ownN).trans S₃ I₃.ownN, I₃, e₁⟩
      · cases e₁
    · cases e₁

/-- what holds between the turns of a for -/
noncomputable def forInv (w : World) (base : Heap) (env : Env) (outer : List Env) (it : Addr) (g : GD) (b : SD) (oc : Oc) (σ' : AS) (H' : AH) (s : Shared) (ρ : List Addr) (m : Nat) (s' : Shared) : Prop :=
  ∃ vs σ₁ ρ₁ H₁ h₁ tk, s' = { s with heap := h₁, toks := tk } ∧ m = vs.length ∧ StepX (fun b => own env b ∨ b = it) ρ s.heap ρ₁ h₁ ∧ Inv w base env (env :: outer) σ₁ ρ₁ H₁ h₁ ∧ ItSt h₁ ρ₁ it vs ∧ it ∉ ρ₁ ∧ (∀ b, h₁.get? b = none → s.heap.get? b = none) ∧
    dFor g b vs σ₁ H₁ = some (oc, σ', H')
theorem dFor_run {it : Addr} {L : Addr} {t : Expr} {body : List Stmt} {g : GD} {b : SD} (hg : DenG w base k env t g) (hb : DenS w base k env (execs body env) b) (hf : env.frame = some L)
    {A : Around} {outer : List Env} {σ : AS} {ρ : List Addr} {H : AH} {oc : Oc} {σ' : AS} {H' : AH} {s : Shared} {vs : List AV} {Q : Flow → Shared → Prop} {E : Value → Shared → Prop}
    (W : Wd w base) (a : Ax A (env :: outer) k) (I : Inv w base env (env :: outer) σ ρ H s.heap) (x : ItSt s.heap ρ it vs) (e : dFor g b vs σ H = some (oc, σ', H'))
    (nx : it ∉ ρ) (nl : it ≠ env.locals) (nc : ∀ y, env.cells.lookup y ≠ some it) (nf : ∀ f ∈ env :: outer, f.frame ≠ some it) (nb : base.objs.size ≤ it)
    (ht : ∀ it v, letOwnedTupleGo t it v = pure ())
    (q : ∀ ρ' h' tk fl, StepX (fun b => own env b ∨ b = it) ρ s.heap ρ' h' → Inv w base env (env :: outer) σ' ρ' H' h' → FlIs h' ρ' oc fl → Q fl { s with heap := h', toks := tk })
    (qe : ∀ q h' tk e tr, oc = .exc q → StepE base (fun b => own env b ∨ b = it) (env :: outer) ρ s.heap h' → ExcAt s.heap h' e q tr → E (.ref e) { s with heap := h', toks := tk }) :
    codeAny (model PG w) A (.forLoop t (.ref it) body [] env) (fun r s' => match r with | .ok f => Q f s' | .error e => cameBackBy (model PG w) A env E e s') s := by
  have ok : ∀ {c : Prop}, own env it → c := fun z => by
    rcases z with z | ⟨y, _, z⟩
    · exact absurd z nl
    · exact absurd z (nc y)
  generalize hR : (fun (r : Result) (s' : Shared) => match r with | .ok f => Q f s' | .error e => cameBackBy (model PG w) A env E e s') = R
  have R1 : ∀ {f s'}, Q f s' → R (.ok f) s' := by subst hR; exact fun z => z
  refine codeAny_forLoop (ht := ht _) (forInv w base env outer it g b oc σ' H' s ρ) ?_ vs.length ⟨vs, σ, ρ, H, s.heap, s.toks, rfl, rfl, .refl .., I, x, nx, fun _ z => z, e⟩
  generalize hK : (notedBy (model PG w) A env fun e s' => R (.error e) s') = K
  rintro m s' ⟨vs, σ₁, ρ₁, H₁, h₁, tk, rfl, rfl, S₁, I₁, x₁, nx₁, dm₁, e₁⟩
  cases vs with
  | nil =>
    unfold dFor at e₁
    cases e₁
    refine it_none a.hh x₁ fun h₂ kp => ?_
    have I₂ := I₁.but (x₁.plain kp) nx₁ nl nc nf nb kp
    have S₂ : StepX (fun b => own env b ∨ b = it) ρ₁ h₁ ρ₁ h₂ := ⟨⟨[], by simp⟩, fun b ob g _ no => kp b ob (fun z => no (.inr z)) g, fun _ a b => absurd a b⟩
    refine wpAny_execs_nil (R1 <| q ρ₁ h₂ tk _ (S₁.trans S₂ fun a oa => ?_) I₂ rfl)
    rcases oa with oa | rfl
    · exact I₁.ownN a oa
    · exact nx₁
  | cons v r =>
    unfold dFor at e₁
    split at e₁
    · rename_i σ₂ H₂ h2
      refine it_some x₁ fun h₂ tk₂ y av x₂ kp => ?_
      have I₂ := I₁.but (x₁.plain kp) nx₁ nl nc nf nb kp
      have S₂ : StepX (fun b => own env b ∨ b = it) ρ₁ h₁ ρ₁ h₂ := ⟨⟨[], by simp⟩, fun b ob g _ no => kp b ob (fun z => no (.inr z)) g, fun _ a b => absurd a b⟩
      have ow : ∀ {ρ' : List Addr}, (∀ a, own env a → a ∉ ρ') → it ∉ ρ' → ∀ a, (own env a ∨ a = it) → a ∉ ρ' := fun h1 h2 a oa => oa.elim (h1 a) (fun z => z ▸ h2)
      have S₁₂ := S₁.trans S₂ (ow I₁.ownN nx₁)
      have dm₂ : ∀ b, h₂.get? b = none → s.heap.get? b = none := fun b n => by
        by_cases z : b = it
        · subst z
          rcases x₂ with ⟨x, left, c, a, _⟩ | ⟨t, o', n', ws, i, ⟨o'', a1, _⟩, _⟩
          · have a : h₂.get? b = some _ := a
            rw [n] at a; cases a
          · rw [n] at a1; cases a1
        · refine dm₁ b ?_
          cases g : h₁.get? b with
          | none => rfl
          | some o => rw [kp b o z g] at n; cases n
      refine hg (s := { s with heap := h₂, toks := tk₂ }) W a I₂ av h2 fun ρ₃ h₃ tk₃ S₃ I₃ p₃ => ?_
      have hit : ∀ o, h₂.get? it = some o → h₃.get? it = some o := fun o g => S₃.kept it o g nx₁ fun z => ok z
      have x₃ := x₂.mono p₃ S₃.pre hit
      have nx₃ : it ∉ ρ₃ := fun m => by
        have := S₃.new it m nx₁
        rcases x₂ with ⟨x, left, c, a, _⟩ | ⟨t, o', n, ws, i, ⟨o'', a1, _⟩, _⟩
        · have a : h₂.get? it = some _ := a
          rw [this] at a; cases a
        · rw [this] at a1; cases a1
      have S₃' : StepX (fun b => own env b ∨ b = it) ρ₁ h₂ ρ₃ h₃ := ⟨S₃.pre, fun b ob g n no => S₃.kept b ob g n fun z => no (.inl z), S₃.new⟩
      have S₁₃ := S₁₂.trans S₃' (ow I₃.ownN nx₃)
      have dm₃ : ∀ b, h₃.get? b = none → s.heap.get? b = none := fun b n => dm₂ b (S₃.dom I₃ b n)
      have done : ∀ {oc₂ σ₄ H₄}, b σ₂ H₂ = some (oc₂, σ₄, H₄) → (match (some (oc₂, σ₄, H₄) : Option (Oc × AS × AH)) with | some (.next, σ₂, H₂) => dFor g b r σ₂ H₂ | some (.cont, σ₂, H₂) => dFor g b r σ₂ H₂ | x => x) = some (oc, σ', H') →
          wpAny (model PG w) A (execs body env) (fun f s₃ => match f with
            | .next | .cont => ∃ m, m < (v :: r).length ∧ forInv w base env outer it g b oc σ' H' s ρ m s₃
            | .brk => R (.ok .next) s₃
            | .ret v => R (.ok (.ret v)) s₃) K { s with heap := h₃, toks := tk₃ } := by
        intro oc₂ σ₄ H₄ h4 e₄
        refine hb (s := { s with heap := h₃, toks := tk₃ }) W a I₃ h4 (fun ρ₄ h₄ tk₄ fl S₄ I₄ hfl => ?_) fun q' h' tk e' tr z SE X => ?_
        · have hit₄ : ∀ o, h₃.get? it = some o → h₄.get? it = some o := fun o g => S₄.kept it o g nx₃ fun z => ok z
          have nx₄ : it ∉ ρ₄ := fun m => by
            have := S₄.new it m nx₃
            rcases x₃ with ⟨x, left, c, a, _⟩ | ⟨t, o', n, ws, i, ⟨o'', a1, _⟩, _⟩
            · have a : h₃.get? it = some _ := a
              rw [this] at a; cases a
            · rw [this] at a1; cases a1
          have x₄ := x₃.mono (I₃.plainStore S₄ (σ' := σ) (H' := H)) S₄.pre hit₄
          have S₄' : StepX (fun b => own env b ∨ b = it) ρ₃ h₃ ρ₄ h₄ := ⟨S₄.pre, fun b ob g n no => S₄.kept b ob g n fun z => no (.inl z), S₄.new⟩
          have S₁₄ := S₁₃.trans S₄' (ow I₄.ownN nx₄)
          have dm₄ : ∀ b, h₄.get? b = none → s.heap.get? b = none := fun b n => dm₃ b (S₄.dom I₄ b n)
          cases oc₂ with
          | next => obtain rfl : fl = .next := hfl; exact ⟨r.length, Nat.lt_succ_self _, r, σ₄, ρ₄, H₄, h₄, tk₄, rfl, rfl, S₁₄, I₄, x₄, nx₄, dm₄, e₄⟩
          | cont => obtain rfl : fl = .cont := hfl; exact ⟨r.length, Nat.lt_succ_self _, r, σ₄, ρ₄, H₄, h₄, tk₄, rfl, rfl, S₁₄, I₄, x₄, nx₄, dm₄, e₄⟩
          | ret u => cases e₄; obtain ⟨y, rfl, av⟩ := hfl; exact R1 (q ρ₄ h₄ tk₄ _ S₁₄ I₄ ⟨y, rfl, av⟩)
          | exc u => exact hfl.elim
        · subst z
          cases e₄
          subst hK hR
          refine loop_out (s := s) I₃ a hf (⟨fun b ob g n no => SE.kept b ob g n fun z => no (.inl z), SE.stay, SE.frs⟩ : StepE base (fun b => own env b ∨ b = it) (env :: outer) ρ₃ h₃ h') X fun h'' tk'' tr'' SE' X' => ?_
          refine qe q' h'' tk'' e' tr'' rfl ⟨fun b ob g n no => SE'.kept b ob (S₁₃.kept b ob g n no) (fun m => ?_) no, SE'.stay, SE'.frs⟩ (X'.base dm₃)
          have := S₁₃.new b m n
          rw [g] at this; cases this
      generalize h4 : b σ₂ H₂ = res at e₁
      cases res with
      | none => cases e₁
      | some z => obtain ⟨oc₂, σ₄, H₄⟩ := z; exact done h4 e₁
    · cases e₁
theorem sFor_ok {t i : Expr} {body : List Stmt} {p : Pos} {f : ED} {g : GD} {b : SD} (hi : DenE w base k env i f) (hg : DenG w base k env t g) (hb : DenS w base k env (execs body env) b) (hf : env.frame = some env.locals)
    (ht : ∀ it v, letOwnedTupleGo t it v = pure ()) (hs : ∀ x, foldedSetIterable i env x = pure x) : DenS w base k env (exec (.For t i body [] p) env) (sFor f g b) := by
  intro A outer σ ρ H oc σ' H' s Q E W a I e q qe
  unfold sFor at e
  split at e
  · rename_i v H₁ h1
    split at e
    · rename_i l hl
      refine wpAny_For (hi W a I h1 fun ρ₁ g₁ t₁ r₁ S₁ P₁ v₁ => iter_ok (s := { s with heap := g₁, toks := t₁ }) hl v₁ fun g₂ kp fresh x => ?_) hs
      have S₂ : Step ρ₁ g₁ ρ₁ g₂ := Step.keeps kp
      have I₁ := I.next S₁ P₁
      have I₂ := I₁.next S₂ (P₁.keeps kp)
      have dm₂ : ∀ b, g₂.get? b = none → s.heap.get? b = none := fun b n => Step.dom S₁ P₁ b (none_of' kp n)
      refine dFor_run (s := { s with heap := g₂, toks := t₁ }) hg hb hf W a I₂ x e (fun (m : g₁.objs.size ∈ ρ₁) => P₁.there _ m fresh) (fun z => ?_) (fun y z => ?_) (fun f m z => ?_) I₁.fok.big ht (fun ρ' h' tk fl S I' hfl => ?_) fun q' h' tk e' tr z SE X => ?_
      · exact I₁.ownThere _ (.inl rfl) (z ▸ fresh)
      · obtain ⟨_, _, _, o, v, g, _⟩ := I₁.cells _ _ z
        have fresh : g₁.get? g₁.objs.size = none := fresh
        rw [fresh] at g; cases g
      · obtain ⟨o, g, _⟩ := funFrames_get I₁.fok.frs f m _ z
        have fresh : g₁.get? g₁.objs.size = none := fresh
        rw [fresh] at g; cases g
      · refine q ρ' h' tk fl ⟨?_, fun b ob g n no => ?_, fun b m n => ?_⟩ I' hfl
        · obtain ⟨u, rfl⟩ := S₁.pre
          obtain ⟨u', rfl⟩ := S.pre
          exact ⟨u ++ u', by rw [List.append_assoc]⟩
        · have g₁' := S₁.kept b ob g n
          refine S.kept b ob (kp b ob g₁') (fun m => ?_) fun z => ?_
          · have := S₁.new b m n; rw [g] at this; cases this
          · rcases z with z | rfl
            · exact no z
            · have fresh : g₁.get? g₁.objs.size = none := fresh
              rw [fresh] at g₁'; cases g₁'
        · by_cases m₁ : b ∈ ρ₁
          · exact S₁.new b m₁ n
          · cases g : s.heap.get? b with
            | none => rfl
            | some ob => have := S.new b m m₁; rw [kp b ob (S₁.kept b ob g n)] at this; cases this
      · refine qe q' h' tk e' tr z ⟨fun b ob g n no => ?_, SE.stay, SE.frs⟩ (X.base dm₂)
        have g₁' := S₁.kept b ob g n
        refine SE.kept b ob (kp b ob g₁') (fun m => ?_) fun z => ?_
        · have := S₁.new b m n; rw [g] at this; cases this
        · rcases z with z | rfl
          · exact no z
          · have fresh : g₁.get? g₁.objs.size = none := fresh
            rw [fresh] at g₁'; cases g₁'
    · cases e
  · cases e
end
end Mine
end
/-! part D11 -/
section
open PySem PySem.W PyProof.Rows
set_option maxRecDepth 100000
set_option linter.unusedVariables false
namespace Mine
section
variable {w : World} {base : Heap} {k : Nat} {env : Env}

/-! lists walked, too -/
noncomputable def itemsL (H : AH) (v : AV) : Option (List AV) := match v with
  | .ref j => (match H[j]? with | some (.list l) => some l | _ => Option.none)
  | v => itemsOf v
noncomputable def SrcSt (pu : Prop) (h : Heap) (ρ : List Addr) (H : AH) (it : Addr) (D : Nat) (vs : List AV) : Prop :=
  ItSt h ρ it vs ∨ (pu ∧ ∃ (c : Addr) (i j : Nat) (l : List AV), h.IsListIter it c i ∧ ρ[j]? = some c ∧ H[j]? = some (AO.list l) ∧ j < D ∧ vs = l.drop i)
theorem SrcSt.there {pu : Prop} {h : Heap} {ρ : List Addr} {H : AH} {it : Addr} {D : Nat} {vs : List AV} (x : SrcSt pu h ρ H it D vs) : h.get? it ≠ none := by
  rcases x with (⟨x, left, c, a, _⟩ | ⟨t, o', n', ws, i, ⟨o'', a1, _⟩, _⟩) | ⟨_, c, i, j, l, ⟨o, a1, _⟩, _⟩
  · have a : h.get? it = some _ := a
    rw [a]; simp
  · rw [a1]; simp
  · rw [a1]; simp
theorem SrcSt.plain {pu : Prop} {h h' : Heap} {ρ : List Addr} {H : AH} {it : Addr} {D : Nat} {vs : List AV} (x : SrcSt pu h ρ H it D vs) (kp : ∀ b o, b ≠ it → h.get? b = some o → h'.get? b = some o) : Plain h h' := by
  rcases x with x | ⟨_, c', i, j, l, ⟨o'', a1, a2, a3⟩, _⟩
  · exact x.plain kp
  · intro b o e c
    refine kp b o (fun z => ?_) e
    subst z
    rw [e] at a1; cases a1
    rw [a2] at c
    rcases c with ⟨c, _⟩ | ⟨c, _⟩ <;> simp at c
theorem SrcSt.mono {pu : Prop} {h h' : Heap} {ρ ρ' : List Addr} {H H' : AH} {it : Addr} {D : Nat} {vs : List AV} (x : SrcSt pu h ρ H it D vs) (pl : Plain h h') (p : ∃ x, ρ' = ρ ++ x) (ki : ∀ o, h.get? it = some o → h'.get? it = some o) (hh : pu → ∀ j, j < D → H'[j]? = H[j]?) : SrcSt pu h' ρ' H' it D vs := by
  rcases x with x | ⟨pp, c', i, j, l, ⟨o'', a1, a2⟩, a3, a4, a5, a6⟩
  · exact .inl (x.mono pl p ki)
  · exact .inr ⟨pp, c', i, j, l, ⟨o'', ki _ a1, a2⟩, pre_get p a3, (hh pp j a5).trans a4, a5, a6⟩
theorem SrcSt.stop {pu : Prop} {A : Around} {s : Shared} {ρ : List Addr} {H : AH} {it : Addr} {D : Nat} {Q : Option Value → Shared → Prop} {E : Value → Shared → Prop} (hh : A.handled = none) (P : HeapOk w base ρ H s.heap) (x : SrcSt pu s.heap ρ H it D [])
    (q : ∀ h', (∀ b o, b ≠ it → s.heap.get? b = some o → h'.get? b = some o) → Q none { s with heap := h' }) : wpAny (model PG w) A (pyNext (.ref it)) Q E s := by
  rcases x with x | ⟨pp, c, i, j, l, a1, a2, a3, a4, a5⟩
  · exact it_none hh x q
  · obtain ⟨ws, hp, al⟩ := P.at' j c _ a2 a3
    have ln : ws.size = l.length := by rw [← al.len]; simp
    have hi := List.drop_eq_nil_iff.mp a5.symm
    exact wpAny_pyNext_list_end hh a1 hp.isList (Array.getElem?_eq_none (by omega)) fun h' e => q h' fun b o nb g => e b o nb g
theorem SrcSt.step {pu : Prop} {A : Around} {s : Shared} {ρ : List Addr} {H : AH} {it : Addr} {D : Nat} {v : AV} {r : List AV} {Q : Option Value → Shared → Prop} {E : Value → Shared → Prop} (P : HeapOk w base ρ H s.heap) (x : SrcSt pu s.heap ρ H it D (v :: r))
    (q : ∀ h' tk y, AVis h' ρ v y → SrcSt pu h' ρ H it D r → (∀ b o, b ≠ it → s.heap.get? b = some o → h'.get? b = some o) → Q (some y) { s with heap := h', toks := tk }) : wpAny (model PG w) A (pyNext (.ref it)) Q E s := by
  have x' := id x
  rcases x with x | ⟨pp, c, i, j, l, a1, a2, a3, a4, a5⟩
  · exact it_some x fun h' tk y av x kp => q h' tk y av (.inl x) kp
  · obtain ⟨ws, hp, al⟩ := P.at' j c _ a2 a3
    have hi : i < l.length := by
      rcases Nat.lt_or_ge i l.length with z | z
      · exact z
      · rw [List.drop_eq_nil_iff.mpr z] at a5; cases a5
    rw [List.drop_eq_getElem_cons hi] at a5
    cases a5
    obtain ⟨y, hy, av⟩ := al.get (List.getElem?_eq_getElem hi)
    refine wpAny_pyNext_list_item a1 hp.isList (by rw [← Array.getElem?_toList]; exact hy) fun h' hi' sb => ?_
    have kp : ∀ b o, b ≠ it → s.heap.get? b = some o → h'.get? b = some o := fun b o nb g => (sb.2 b nb).trans g
    exact q h' s.toks y (av.mono (x'.plain kp) ⟨[], by simp⟩) (.inr ⟨pp, c, i + 1, j, l, hi', a2, a3, a4, rfl⟩) kp

/-- a local name is set -/
theorem storeLocal {A : Around} {fs : List Env} {σ : AS} {ρ : List Addr} {H : AH} {i : Nat} {v : AV} {r : Value} {s : Shared} {Q : Unit → Shared → Prop} {E : Value → Shared → Prop} (I : Inv w base env fs σ ρ H s.heap)
    (hk : env.kindOf (nm i) = some .local) (lt : i < 86) (av : AVis s.heap ρ v r)
    (q : ∀ h' tk, (∀ b o, b ≠ env.locals → s.heap.get? b = some o → h'.get? b = some o) → Plain s.heap h' → Inv w base env fs (put i v σ) ρ H h' → Q () { s with heap := h', toks := tk }) : wpAny (model PG w) A (storeName env (nm i) r) Q E s := by
  obtain ⟨m, ns, hv⟩ := I.vars
  refine wpAny_storeName_local hk ns (fun h' ns' sb => ?_) (by rw [I.envk]; rfl)
  have kp : ∀ b o, b ≠ env.locals → s.heap.get? b = some o → h'.get? b = some o := fun b o nb e => (sb.2 b nb).trans e
  have pl : Plain s.heap h' := fun b o e c => kp b o (fun z => by
    subst z
    obtain ⟨oL, es, ep, gL, dL, _⟩ := ns
    rw [e] at gL; cases gL
    rcases c with ⟨_, ws, n, d⟩ | ⟨_, vs, d⟩ <;> rw [dL] at d <;> cases d) e
  refine q h' _ kp pl ⟨?_, ?_, I.locF, I.locB, ?_, I.cinj, ?_, I.envk, I.envg, I.envb⟩
  · refine ⟨I.hp.len, I.hp.nodup, I.hp.fresh, fun b o e => kp b o (fun z => ?_) (I.hp.stay b o e), fun j a ao ea eh => (I.hp.at' j a ao ea eh).mono pl ⟨[], by simp⟩ fun o e => kp a o (fun z => I.locF (z ▸ List.mem_of_getElem? ea)) e⟩
    subst z
    exact absurd (Heap.lt_size e) (Nat.not_lt.mpr I.locB)
  · refine ⟨_, ns', fun j v' e => ?_⟩
    rw [lk_put] at e
    by_cases z : j = i
    · subst z
      rw [if_pos rfl] at e; cases e
      exact ⟨lt, r, av.mono pl ⟨[], by simp⟩, .inl ⟨hk, if_pos rfl⟩⟩
    · rw [if_neg z] at e
      obtain ⟨lt', r', av', u⟩ := hv j v' e
      refine ⟨lt', r', av'.mono pl ⟨[], by simp⟩, ?_⟩
      rcases u with ⟨u1, u2⟩ | ⟨u1, c, o, u2, u3, u4⟩
      · exact .inl ⟨u1, (if_neg fun z' => z (nm_inj lt' lt z')).trans u2⟩
      · exact .inr ⟨u1, c, o, u2, kp c o (I.cells _ _ u2).2.2.1 u3, u4⟩
  · intro y c cl
    obtain ⟨a, b, d, o, v', g, z⟩ := I.cells y c cl
    exact ⟨a, b, d, o, v', kp c o d g, z⟩
  · refine ⟨funFrames_re I.fok.frs fun e me L f => ?_, I.fok.frF, I.fok.frB, I.fok.ne⟩
    by_cases z : L = env.locals
    · subst z
      obtain ⟨oL, es, ep, gL, dL, _⟩ := ns'
      exact ⟨oL, gL, fun vs d => by rw [dL] at d; cases d⟩
    · obtain ⟨o, g, d⟩ := funFrames_get I.fok.frs e me L f
      exact ⟨o, kp L o z g, d⟩

/-! tests of a comprehension -/
noncomputable def ifsRun (ifs : List Expr) (env : Env) : Sem Bool := forIn ifs true fun c r => if r = true then do let ok ← isTrue c env (eval c env); pure (ForInStep.yield ok) else pure (ForInStep.yield r)
noncomputable def DenTs (w : World) (base : Heap) (k : Nat) (env : Env) (ifs : List Expr) (f : TD) : Prop :=
  ∀ ⦃A : Around⦄ ⦃fs : List Env⦄ ⦃σ : AS⦄ ⦃ρ : List Addr⦄ ⦃H : AH⦄ ⦃v : Bool⦄ ⦃H' : AH⦄ ⦃s : Shared⦄ ⦃Q : Bool → Shared → Prop⦄ ⦃E : Value → Shared → Prop⦄,
    Wd w base → Ax A fs k → Inv w base env fs σ ρ H s.heap → f σ H = some (v, H') →
    (∀ ρ' h' tk, Step ρ s.heap ρ' h' → HeapOk w base ρ' H' h' → Q v { s with heap := h', toks := tk }) →
    wpAny (model PG w) A (ifsRun ifs env) Q E s
theorem tsNil_ok : DenTs w base k env [] dTT := by
  intro A fs σ ρ H v H' s Q E W a I e q
  cases e
  exact wpAny_pure (q ρ s.heap s.toks (.refl ..) I.hp)
theorem tsOne_ok {c : Expr} {t : TD} (ht : DenT w base k env c t) : DenTs w base k env [c] t := by
  intro A fs σ ρ H v H' s Q E W a I e q
  unfold ifsRun
  rw [List.forIn_cons]
  refine wpAny_bind ?_
  rw [if_pos rfl]
  exact wpAny_bind (ht W a I e fun ρ' h' tk S P => wpAny_pure (wpAny_pure (q ρ' h' tk S P)))

/-! list comprehensions -/
noncomputable def capt (ids : List Nat) (σ : AS) : AS := match ids with
  | [] => []
  | i :: r => (match lk i σ with | some v => (i, v) :: capt r σ | Option.none => capt r σ)
noncomputable def clOf (ids : List Nat) (env : Env) : List (Str × Addr) := match ids with
  | [] => []
  | i :: r => (match env.cells.lookup (nm i) with | some c => (nm i, c) :: clOf r env | Option.none => clOf r env)
theorem capt_get {i : Nat} {v : AV} {σ : AS} : ∀ {ids : List Nat}, lk i (capt ids σ) = some v → i ∈ ids ∧ lk i σ = some v
  | [], e => by cases e
  | j :: r, e => by
    unfold capt at e
    split at e
    · rename_i u hu
      unfold lk at e
      split at e
      · rename_i z; subst z; cases e; exact ⟨.head _, hu⟩
      · obtain ⟨m, g⟩ := capt_get e; exact ⟨.tail _ m, g⟩
    · obtain ⟨m, g⟩ := capt_get e; exact ⟨.tail _ m, g⟩
theorem clOf_old {y : Str} {c : Addr} : ∀ {ids : List Nat}, (clOf ids env).lookup y = some c → env.cells.lookup y = some c
  | [], e => by cases e
  | j :: r, e => by
    unfold clOf at e
    split at e
    · rename_i u hu
      rw [List.lookup_cons] at e
      by_cases z : (y == nm j) = true
      · rw [z] at e; cases e; rw [eq_of_beq z]; exact hu
      · simp only [z] at e; exact clOf_old e
    · exact clOf_old e
theorem clOf_new {i : Nat} {c : Addr} (h : env.cells.lookup (nm i) = some c) : ∀ {ids : List Nat}, i ∈ ids → (clOf ids env).lookup (nm i) = some c
  | j :: r, m => by
    unfold clOf
    by_cases z : (nm i == nm j) = true
    · rw [← eq_of_beq z, h]
      show List.lookup (nm i) ((nm i, c) :: _) = _
      rw [List.lookup_cons]; simp
    · have mr : i ∈ r := by
        cases m with
        | head => exact absurd (beq_self_eq_true _) z
        | tail _ m => exact m
      split
      · rw [List.lookup_cons]
        simp only [z]
        exact clOf_new h mr
      · exact clOf_new h mr

noncomputable def compL (x : Nat) (t : TD) (f : ED) (D : Nat) : List AV → AS → AH → Option AH
  | [], _, H => some H
  | v :: r, σ, H => match t (put x v σ) H with
    | some (false, H₁) => compL x t f D r (put x v σ) H₁
    | some (true, H₁) => (match f (put x v σ) H₁ with
      | some (y, H₂) => (match H₂[D]? with
        | some (.list acc) => if acc.length ≤ 1000 then compL x t f D r (put x v σ) (H₂.set D (.list (acc ++ [y]))) else Option.none
        | _ => Option.none)
      | Option.none => Option.none)
    | Option.none => Option.none
noncomputable def dComp (ids : List Nat) (x : Nat) (it : ED) (t : TD) (f : ED) : ED := fun σ H => match it σ H with
  | some (v, H₁) => (match itemsL H₁ v with
    | some l => (match compL x t f H₁.length l (capt ids σ) (H₁ ++ [.list []]) with | some H' => some (.ref H₁.length, H') | Option.none => Option.none)
    | Option.none => Option.none)
  | Option.none => Option.none
noncomputable def PureT (t : TD) : Prop := ∀ σ H b H', t σ H = some (b, H') → H' = H
noncomputable def PureE (f : ED) : Prop := ∀ σ H v H', f σ H = some (v, H') → H' = H
noncomputable def NoRef (f : ED) : Prop := ∀ σ H v H', f σ H = some (v, H') → ∀ j, v ≠ .ref j

theorem HeapOk.butC {ρ : List Addr} {H : AH} {h h' : Heap} {x : Addr} (P : HeapOk w base ρ H h) (pl : Plain h h') (nx : x ∉ ρ) (nb : base.objs.size ≤ x) (kp : ∀ b o, b ≠ x → h.get? b = some o → h'.get? b = some o) : HeapOk w base ρ H h' := by
  refine ⟨P.len, P.nodup, P.fresh, fun b o e => kp b o (fun z => ?_) (P.stay b o e), fun j a ao ea eh => (P.at' j a ao ea eh).mono pl ⟨[], by simp⟩ fun o e => kp a o (fun z => nx (z ▸ List.mem_of_getElem? ea)) e⟩
  subst z
  exact absurd (Heap.lt_size e) (Nat.not_lt.mpr nb)
theorem ns_plain {h h' : Heap} {C : Addr} {m : Str → Option Value} (n : h.Ns C m) (kp : ∀ b o, b ≠ C → h.get? b = some o → h'.get? b = some o) : Plain h h' := fun b o e c => kp b o (fun z => by
  subst z
  obtain ⟨oL, es, ep, gL, dL, _⟩ := n
  rw [e] at gL; cases gL
  rcases c with ⟨_, ws, n, d⟩ | ⟨_, vs, d⟩ <;> rw [dL] at d <;> cases d) e

/-- the loop of a comprehension -/
theorem compL_run {env' : Env} {it : Addr} {elt iter : Expr} {ifs : List Expr} {scope : Scope} {pos px : Pos} {x : Nat} {t : TD} {f : ED} {A : Around} {fs : List Env} {vs : List AV} {σ : AS} {ρ : List Addr} {H H' : AH} {s : Shared} {R : Result → Shared → Prop} {D : Nat} {Da : Addr}
    (W : Wd w base) (a : Ax A fs k) (I : Inv w base env' fs σ ρ H s.heap) (ht : DenTs w base k env' ifs t) (hf : DenE w base k env' elt f) (hx : env'.kindOf (nm x) = some .local) (lt : x < 86)
    (src : SrcSt (PureT t ∧ PureE f) s.heap ρ H it D vs) (e : compL x t f D vs σ H = some H') (hD : ρ[D]? = some Da)
    (nx : it ∉ ρ) (nl : it ≠ env'.locals) (nc : ∀ y, env'.cells.lookup y ≠ some it) (nf : ∀ f ∈ fs, f.frame ≠ some it) (nb : base.objs.size ≤ it)
    (q : ∀ σ' ρ' h' tk, StepX (fun b => b = env'.locals ∨ b = it) ρ s.heap ρ' h' → Inv w base env' fs σ' ρ' H' h' → ρ'[D]? = some Da → R (.ok .next) { s with heap := h', toks := tk }) :
    codeAny (model PG w) A (.compLoop (.ListComp elt [⟨.Name (nm x) px, iter, ifs, 0⟩] scope pos) 0 (.ref it) (.ref Da) env') R s := by
  refine codeAny_compLoop_tests (fun m s' => ∃ vs σ₁ ρ₁ H₁ h₁ tk, s' = { s with heap := h₁, toks := tk } ∧ m = vs.length ∧ StepX (fun b => b = env'.locals ∨ b = it) ρ s.heap ρ₁ h₁ ∧ Inv w base env' fs σ₁ ρ₁ H₁ h₁ ∧
    SrcSt (PureT t ∧ PureE f) h₁ ρ₁ H₁ it D vs ∧ it ∉ ρ₁ ∧ ρ₁[D]? = some Da ∧ compL x t f D vs σ₁ H₁ = some H') ?_ vs.length
    ⟨vs, σ, ρ, H, s.heap, s.toks, rfl, rfl, .refl .., I, src, nx, hD, e⟩
  rintro m s' ⟨vs, σ₁, ρ₁, H₁, h₁, tk, rfl, rfl, S₁, I₁, x₁, nx₁, hD₁, e₁⟩
  have ow : ∀ {ρ' : List Addr}, env'.locals ∉ ρ' → it ∉ ρ' → ∀ a, (a = env'.locals ∨ a = it) → a ∉ ρ' := fun h1 h2 a oa => oa.elim (fun z => z ▸ h1) (fun z => z ▸ h2)
  cases vs with
  | nil =>
    cases e₁
    refine x₁.stop a.hh I₁.hp fun h₂ kp => ?_
    have I₂ := I₁.but (x₁.plain kp) nx₁ nl nc nf nb kp
    have S₂ : StepX (fun b => b = env'.locals ∨ b = it) ρ₁ h₁ ρ₁ h₂ := ⟨⟨[], by simp⟩, fun b ob g _ no => kp b ob (fun z => no (.inr z)) g, fun _ a b => absurd a b⟩
    exact q σ₁ ρ₁ h₂ tk (S₁.trans S₂ (ow I₁.locF nx₁)) I₂ hD₁
  | cons v r =>
    refine x₁.step I₁.hp fun h₂ tk₂ y av x₂ kp => ?_
    have I₂ := I₁.but (x₁.plain kp) nx₁ nl nc nf nb kp
    have S₂ : StepX (fun b => b = env'.locals ∨ b = it) ρ₁ h₁ ρ₁ h₂ := ⟨⟨[], by simp⟩, fun b ob g _ no => kp b ob (fun z => no (.inr z)) g, fun _ a b => absurd a b⟩
    have S₁₂ := S₁.trans S₂ (ow I₁.locF nx₁)
    refine wpAny_assign_Name (storeLocal (s := { s with heap := h₂, toks := tk₂ }) I₂ hx lt av fun h₃ tk₃ kp₃ pl₃ I₃ => ?_)
    have S₃ : StepX (fun b => b = env'.locals ∨ b = it) ρ₁ h₂ ρ₁ h₃ := ⟨⟨[], by simp⟩, fun b ob g _ no => kp₃ b ob (fun z => no (.inl z)) g, fun _ a b => absurd a b⟩
    have S₁₃ := S₁₂.trans S₃ (ow I₁.locF nx₁)
    have x₃ := x₂.mono (ρ' := ρ₁) (H' := H₁) pl₃ ⟨[], by simp⟩ (fun o g => kp₃ it o nl g) fun _ _ _ => rfl
    have nxS : ∀ {h : Heap} {ρ₂ ρ₃ : List Addr} {h' : Heap}, Step ρ₂ h ρ₃ h' → h.get? it ≠ none → it ∉ ρ₂ → it ∉ ρ₃ := fun S th n m => th (S.new it m n)
    unfold compL at e₁
    split at e₁
    · rename_i H₂ h2
      refine ht (s := { s with heap := h₃, toks := tk₃ }) W a I₃ h2 fun ρ₄ h₄ tk₄ S₄ P₄ => ?_
      rw [if_neg Bool.false_ne_true]
      have x₄ := x₃.mono (H' := H₂) (S₄.plain I₃.hp) S₄.pre (fun o g => S₄.kept it o g nx₁) fun pp j _ => by rw [pp.1 _ _ _ _ h2]
      have I₄ := I₃.next S₄ P₄
      exact ⟨r.length, Nat.lt_succ_self _, r, _, ρ₄, H₂, h₄, tk₄, rfl, rfl, S₁₃.trans (Step.x S₄) (ow I₄.locF (nxS S₄ x₃.there nx₁)), I₄, x₄, nxS S₄ x₃.there nx₁, pre_get S₄.pre hD₁, e₁⟩
    · rename_i H₂ h2
      split at e₁
      · rename_i u H₃ h3
        split at e₁
        · rename_i acc h4
          split at e₁
          · rename_i hn
            refine ht (s := { s with heap := h₃, toks := tk₃ }) W a I₃ h2 fun ρ₄ h₄ tk₄ S₄ P₄ => ?_
            rw [if_pos rfl]
            have x₄ := x₃.mono (H' := H₂) (S₄.plain I₃.hp) S₄.pre (fun o g => S₄.kept it o g nx₁) fun pp j _ => by rw [pp.1 _ _ _ _ h2]
            have I₄ := I₃.next S₄ P₄
            have nx₄ := nxS S₄ x₃.there nx₁
            refine hf (s := { s with heap := h₄, toks := tk₄ }) W a I₄ h3 fun ρ₅ h₅ tk₅ z S₅ P₅ av₅ => ?_
            have x₅ := x₄.mono (H' := H₃) (S₅.plain P₄) S₅.pre (fun o g => S₅.kept it o g nx₄) fun pp j _ => by rw [pp.2 _ _ _ _ h3]
            have I₅ := I₄.next S₅ P₅
            have nx₅ := nxS S₅ x₄.there nx₄
            have hD₅ := pre_get S₅.pre (pre_get S₄.pre hD₁)
            obtain ⟨ws, hp, al⟩ := P₅.at' D Da _ hD₅ h4
            have ln : ws.size = acc.length := by rw [← al.len]; simp
            refine wpAny_list_append_plain (s := { s with heap := h₅, toks := tk₅ }) hp (fun h₆ hp' sb => ?_) (by rw [sizeLine_eq]; omega)
            have kp₆ : ∀ b o, b ≠ Da → h₅.get? b = some o → h₆.get? b = some o := fun b o nb e => (sb.2 b nb).trans e
            have pl₆ : Plain h₅ h₆ := P₅.plain fun b o g nb => kp₆ b o (fun z => nb (z ▸ List.mem_of_getElem? hD₅)) g
            have S₆ : Step ρ₅ h₅ ρ₅ h₆ := Step.upd hD₅ kp₆
            have P₆ := P₅.upd (ao := .list (acc ++ [u])) hD₅ kp₆ ⟨_, hp', by
              rw [Array.toList_push]
              exact (al.mono pl₆ ⟨[], by simp⟩).append (.cons (av₅.mono pl₆ ⟨[], by simp⟩) .nil)⟩
            have x₆ := x₅.mono (H' := H₃.set D (.list (acc ++ [u]))) (S₆.plain P₅) S₆.pre (fun o g => S₆.kept it o g nx₅) fun pp j hj => List.getElem?_set_ne (by omega)
            have I₆ := I₅.next S₆ P₆
            exact ⟨r.length, Nat.lt_succ_self _, r, _, ρ₅, _, h₆, tk₅, rfl, rfl, S₁₃.trans (Step.x ((S₄.trans S₅).trans S₆)) (ow I₆.locF nx₅), I₆, x₆, nx₅, hD₅, e₁⟩
          · cases e₁
        · cases e₁
      · cases e₁
    · cases e₁
theorem src_iter {A : Around} {s : Shared} {ρ : List Addr} {H : AH} {pu : Prop} {v : AV} {r : Value} {vs : List AV} {Q : Value → Shared → Prop} {E : Value → Shared → Prop} (P : HeapOk w base ρ H s.heap) (e : itemsL H v = some vs) (hp : pu ∨ ∀ j, v ≠ .ref j) (av : AVis s.heap ρ v r)
    (q : ∀ h', (∀ b o, s.heap.get? b = some o → h'.get? b = some o) → SrcSt pu h' ρ H s.heap.objs.size H.length vs → Q (.ref s.heap.objs.size) { s with heap := h' }) : wpAny (model PG w) A (pyIter r) Q E s := by
  unfold itemsL at e
  split at e
  · rename_i j
    split at e
    · rename_i l hj
      cases e
      unfold AVis at av
      obtain ⟨c, hc, rfl⟩ := av
      obtain ⟨ws, hpl, al⟩ := P.at' j c _ hc hj
      have lj := (List.getElem?_eq_some_iff.mp hj).1
      refine wpAny_pyIter_list hpl.isList (q _ (fun b o g => Heap.get?_push_of_some _ g) (.inr ⟨?_, c, 0, j, vs, ⟨_, Heap.get?_push_size _ rfl, rfl, rfl⟩, hc, hj, lj, rfl⟩))
      exact hp.elim id fun z => absurd rfl (z j)
    · cases e
  · exact iter_ok e av fun h' kp _ x => q h' kp (.inl x)
theorem src_again {A : Around} {s : Shared} {ρ : List Addr} {H : AH} {pu : Prop} {it : Addr} {D : Nat} {vs : List AV} {Q : Value → Shared → Prop} {E : Value → Shared → Prop} (x : SrcSt pu s.heap ρ H it D vs) (q : Q (.ref it) s) : wpAny (model PG w) A (pyIter (.ref it)) Q E s := by
  rcases x with (⟨x, left, c, a, _⟩ | ⟨t, o', n', ws, i, a1, _⟩) | ⟨_, c, i, j, l, a1, _⟩
  · exact wpAny_pyIter_rangeiter a q
  · exact wpAny_pyIter_tupleiter a1 q
  · exact wpAny_pyIter_listiter a1 q
end
end Mine
end
/-! part D12 -/
section
open PySem PySem.W PyProof.Rows
set_option maxRecDepth 100000
set_option linter.unusedVariables false
namespace Mine
section
variable {w : World} {base : Heap} {k : Nat} {env : Env}

structure ScOk (env : Env) (scope : Scope) (ids : List Nat) (x : Nat) : Prop where
  kind : scope.kind = .function
  cell : ∀ y ∈ scope.names, y.2 ≠ .cell
  names : ∀ y ∈ scope.names, y.2 = .local → scope.names.lookup y.1 = some .local
  var : scope.names.lookup (nm x) = some .local
  lt : x < 86
  clos : closureFor scope env = pure (clOf ids env)
  ids : ∀ i ∈ ids, ((relabel scope env).names.lookup (nm i) = some .cell ∨ (relabel scope env).names.lookup (nm i) = some .free) ∧ env.kindOf (nm i) ≠ some .local

theorem compBlock {it : Addr} {elt iter : Expr} {ifs : List Expr} {scope : Scope} {pos px : Pos} {ids : List Nat} {x : Nat} {t : TD} {f : ED} {A : Around} {fs : List Env} {vs : List AV} {σ : AS} {ρ : List Addr} {H H' : AH} {s : Shared} {E : Value → Shared → Prop} {RR : Value → Addr → Result → Shared → Prop}
    (sc : ScOk env scope ids x) (W : Wd w base) (a : Ax A fs k) (I : Inv w base env fs σ ρ H s.heap) (ht : ∀ C, DenTs w base k (compEnvC scope (clOf ids env) C env) ifs t) (hf : ∀ C, DenE w base k (compEnvC scope (clOf ids env) C env) elt f)
    (src : SrcSt (PureT t ∧ PureE f) s.heap ρ H it H.length vs) (e : compL x t f H.length vs (capt ids σ) (H ++ [.list []]) = some H')
    (nx : it ∉ ρ) (nc : ∀ y, env.cells.lookup y ≠ some it) (nf : ∀ f ∈ fs, f.frame ≠ some it) (nb : base.objs.size ≤ it)
    (hRR : ∀ C Da ρ' h' tk, C ∉ ρ' → base.objs.size ≤ C → s.heap.get? C = none → (∃ m, h'.Ns C m) → StepX (fun b => b = it) ρ s.heap ρ' h' → HeapOk w base ρ' H' h' → AVis h' ρ' (.ref H.length) (.ref Da) → RR (.ref Da) C (.ok .next) { s with heap := h', toks := tk }) :
    wpAny (model PG w) A (newList []) (fun acc s₃ => wpAny (model PG w) A (newFunctionEnv scope env.globals (clOf ids env) [] env.qual none .none (some env)) (fun cenv s₄ =>
      codeAny (model PG w) A (.compStart (.ListComp elt [⟨.Name (nm x) px, iter, ifs, 0⟩] scope pos) 0 (.ref it) acc { cenv with scope := relabel scope env }) (RR acc cenv.locals) s₄) E s₃) E s := by
  refine wpAny_newObj_type (wpAny_newFunctionEnv sc.cell (by intro y hy; simp at hy) (fun h₁ hns₁ hsb₁ => ?_) sc.kind)
  dsimp only at hns₁ hsb₁ ⊢
  obtain ⟨S₂, P₂, v₂⟩ := newObj_ok (o := { cls := .type "list", dict := none, data := .seq ([] : List Value).toArray }) (ao := .list []) I.hp I.fok.big
    ⟨_, ⟨_, Heap.get?_push_size _ rfl⟩, by show AVall _ _ [] []; exact .nil⟩
  generalize hH2 : s.heap.push { cls := .type "list", dict := none, data := .seq ([] : List Value).toArray } = H2 at hns₁ hsb₁ S₂ P₂ v₂ ⊢
  have hC : H2.objs.size = s.heap.objs.size + 1 := by rw [← hH2, Heap.size_push]
  have big : base.objs.size ≤ s.heap.objs.size := I.fok.big
  have CN : H2.get? H2.objs.size = none := size_none _
  have kp₁ : ∀ b o, H2.get? b = some o → h₁.get? b = some o := fun b o e => (hsb₁.2 b (Nat.ne_of_lt (Heap.lt_size e))).trans (Heap.get?_push_of_some _ e)
  have S₃ : Step (ρ ++ [s.heap.objs.size]) H2 (ρ ++ [s.heap.objs.size]) h₁ := Step.keeps kp₁
  have P₃ := P₂.keeps kp₁
  have kp : ∀ b o, s.heap.get? b = some o → h₁.get? b = some o := fun b o e => kp₁ b o (by rw [← hH2]; exact Heap.get?_push_of_some _ e)
  have freshC : s.heap.get? H2.objs.size = none := Heap.get?_none_of_le (by rw [hC]; exact Nat.le_succ _)
  have S₁₃ := S₂.trans S₃
  have I₃ := I.next S₁₃ P₃
  have v₃ := v₂.mono (S₃.plain P₂) S₃.pre
  unfold AVis at v₃
  obtain ⟨Da, hDa, eD⟩ := v₃
  cases eD
  have nxit : it ≠ s.heap.objs.size := fun z => src.there (by rw [z]; exact size_none _)
  have nx' : it ∉ ρ ++ [s.heap.objs.size] := fun m => by
    rcases List.mem_append.mp m with m | m
    · exact nx m
    · exact nxit (List.mem_singleton.mp m)
  have nlC : it ≠ H2.objs.size := fun z => src.there (by rw [z]; exact freshC)
  have CNρ : H2.objs.size ∉ ρ ++ [s.heap.objs.size] := fun m => P₂.there _ m CN
  have I' : Inv w base (compEnvC scope (clOf ids env) H2.objs.size env) fs (capt ids σ) (ρ ++ [s.heap.objs.size]) (H ++ [.list []]) h₁ := by
    refine ⟨P₃, ⟨_, hns₁, fun i v hv => ?_⟩, CNρ, by show base.objs.size ≤ H2.objs.size; omega, fun y c hc => ?_, fun y y' c h h' => I.cinj y y' c (clOf_old h) (clOf_old h'), I₃.fok, sc.kind, I.envg, I.envb⟩
    · obtain ⟨mi, hl⟩ := capt_get hv
      obtain ⟨m, ns, hv⟩ := I₃.vars
      obtain ⟨lt, r, av, u⟩ := hv i v hl
      obtain ⟨hk, hn⟩ := sc.ids i mi
      refine ⟨lt, r, av, ?_⟩
      rcases u with ⟨u1, _⟩ | ⟨_, c, o, u2, u3, u4⟩
      · exact absurd u1 hn
      · exact .inr ⟨hk, c, o, clOf_new u2 mi, u3, u4⟩
    · obtain ⟨a1, a2, _, o, v, g, d⟩ := I.cells y c (clOf_old hc)
      refine ⟨fun m => ?_, a2, fun z => ?_, o, v, kp c o g, d⟩
      · rcases List.mem_append.mp m with m | m
        · exact a1 m
        · rw [List.mem_singleton.mp m, size_none] at g; cases g
      · have z : c = H2.objs.size := z
        rw [z, freshC] at g; cases g
  have src' : SrcSt (PureT t ∧ PureE f) h₁ (ρ ++ [s.heap.objs.size]) (H ++ [.list []]) it H.length vs :=
    src.mono (fun b o g _ => kp b o g) ⟨_, rfl⟩ (fun o g => kp it o g) fun _ j hj => List.getElem?_append_left hj
  have loop : ∀ s₃ : Shared, s₃ = { s with heap := h₁, toks := s.toks + ([] : List (Str × Value)).length } →
      codeAny (model PG w) A (.compLoop (.ListComp elt [⟨.Name (nm x) px, iter, ifs, 0⟩] scope pos) 0 (.ref it) (.ref s.heap.objs.size) (compEnvC scope (clOf ids env) H2.objs.size env))
        (RR (.ref s.heap.objs.size) H2.objs.size) s₃ := by
    rintro s₃ rfl
    refine compL_run (s := { s with heap := h₁, toks := s.toks + ([] : List (Str × Value)).length }) (D := H.length) W a I' (ht _) (hf _) (lookup_relabel_local sc.var) sc.lt src' e hDa nx' nlC (fun y z => nc y (clOf_old z)) nf nb fun σ' ρ' h' tk S' J hD' => ?_
    obtain ⟨m, ns, _⟩ := J.vars
    refine hRR _ _ ρ' h' tk J.locF J.locB freshC ⟨m, ns⟩ ⟨?_, fun b ob g n nb => ?_, fun b m n => ?_⟩ J.hp (by unfold AVis; exact ⟨_, hD', rfl⟩)
    · obtain ⟨u, rfl⟩ := S'.pre
      exact ⟨[s.heap.objs.size] ++ u, by rw [List.append_assoc]⟩
    · refine S'.kept b ob (kp b ob g) (fun m => ?_) fun z => ?_
      · rcases List.mem_append.mp m with m | m
        · exact n m
        · rw [List.mem_singleton.mp m, size_none] at g; cases g
      · rcases z with rfl | z
        · have freshC : s.heap.get? (compEnvC scope (clOf ids env) H2.objs.size env).locals = none := freshC
          rw [freshC] at g; cases g
        · exact nb z
    · by_cases m₁ : b ∈ ρ ++ [s.heap.objs.size]
      · rcases List.mem_append.mp m₁ with m₁ | m₁
        · exact absurd m₁ n
        · rw [List.mem_singleton.mp m₁]; exact size_none _
      · exact none_of' kp (S'.new b m m₁)
  exact codeAny_compStart_list (loop _ rfl) (src_again (s := { s with heap := h₁, toks := s.toks + ([] : List (Str × Value)).length }) src' (loop _ rfl))

theorem dComp_ok {elt iter : Expr} {ifs : List Expr} {scope : Scope} {pos px : Pos} {ids : List Nat} (x : Nat) {xs : Str} {i t f} (hxs : xs = nm x) (sc : ScOk env scope ids x) (hi : DenE w base k env iter i) (ht : ∀ C, DenTs w base k (compEnvC scope (clOf ids env) C env) ifs t) (hf : ∀ C, DenE w base k (compEnvC scope (clOf ids env) C env) elt f)
    (hp : (PureT t ∧ PureE f) ∨ NoRef i) (hs : ∀ x, foldedSetIterable iter env x = pure x) :
    DenE w base k env (.ListComp elt [⟨.Name xs px, iter, ifs, 0⟩] scope pos) (dComp ids x i t f) := by
  intro A fs σ ρ H v H' s Q E W a I e q
  subst hxs
  unfold dComp at e
  split at e
  · rename_i v₀ H₁ h1
    split at e
    · rename_i l hl
      split at e
      · rename_i H₂ h2
        cases e
        rw [eval_ListComp]
        refine wpAny_comprehension_free (use := none) rfl hs sc.clos sc.kind sc.names (hi W a I h1 fun ρ₁ g₁ t₁ r₁ S₁ P₁ v₁ => src_iter (s := { s with heap := g₁, toks := t₁ }) P₁ hl (hp.imp id fun z => z _ _ _ _ h1) v₁ fun g₂ kp₂ x₂ => ?_)
        have fresh : g₁.get? g₁.objs.size = none := size_none _
        have S₂ : Step ρ₁ g₁ ρ₁ g₂ := Step.keeps kp₂
        have I₁ := I.next S₁ P₁
        have I₂ := I₁.next S₂ (P₁.keeps kp₂)
        refine compBlock (s := { s with heap := g₂, toks := t₁ }) (RR := fun acc C => compPost (model PG w) A E none Q acc C) sc W a I₂ ht hf x₂ h2 (fun (m : g₁.objs.size ∈ ρ₁) => P₁.there _ m fresh) (fun y z => ?_) (fun f m z => ?_) I₁.fok.big fun C Da ρ' h' tk nC bC fC ns S P av => ?_
        · obtain ⟨_, _, _, o, v, g, _⟩ := I₁.cells _ _ z
          have g : g₁.get? g₁.objs.size = some o := g
          rw [fresh] at g; cases g
        · obtain ⟨o, g, _⟩ := funFrames_get I₁.fok.frs f m _ z
          have g : g₁.get? g₁.objs.size = some o := g
          rw [fresh] at g; cases g
        · obtain ⟨m, ns⟩ := ns
          refine ⟨m, ns, fun h'' sb => ?_⟩
          have kp : ∀ b o, b ≠ C → h'.get? b = some o → h''.get? b = some o := fun b o nb g => (sb.2 b nb).trans g
          have pl := ns_plain ns kp
          have fC₁ : g₁.get? C = none := none_of' kp₂ fC
          refine q ρ' h'' tk _ (S₁.trans ⟨S.pre, fun b ob g n => kp b ob (fun z => by rw [z, fC₁] at g; cases g) (S.kept b ob (kp₂ b ob g) n fun (z : b = g₁.objs.size) => by rw [z, fresh] at g; cases g), fun b m n => none_of' kp₂ (S.new b m n)⟩) (P.butC pl nC bC kp) (av.mono pl ⟨[], by simp⟩)
      · cases e
    · cases e
  · cases e
/-- x = [...]: the name is set before the comprehension's names go -/
theorem sAssComp_ok {elt iter : Expr} {ifs : List Expr} {scope : Scope} {pos px py spos : Pos} {ids : List Nat} (x y : Nat) {xs ys : Str} {i t f} (hxs : xs = nm x) (hys : ys = nm y) (sc : ScOk env scope ids x) (hi : DenE w base k env iter i) (ht : ∀ C, DenTs w base k (compEnvC scope (clOf ids env) C env) ifs t)
    (hf : ∀ C, DenE w base k (compEnvC scope (clOf ids env) C env) elt f) (hp : (PureT t ∧ PureE f) ∨ NoRef i) (hs : ∀ x, foldedSetIterable iter env x = pure x) (hy : NmOk env y) (lt : y < 86)
    (hsw : swapsWith (.ListComp elt [⟨.Name xs px, iter, ifs, 0⟩] scope pos) (some (.Name ys py)) spos.line env = pure true) :
    DenS w base k env (exec (.Assign [.Name ys py] (.ListComp elt [⟨.Name xs px, iter, ifs, 0⟩] scope pos) spos) env) (sAss (dComp ids x i t f) (gName y)) := by
  intro A outer σ ρ H oc σ' H' s Q E W a I e q qe
  subst hxs hys
  unfold sAss at e
  split at e
  · rename_i v H₀ h0
    cases e
    unfold dComp at h0
    split at h0
    · rename_i v₀ H₁ h1
      split at h0
      · rename_i l hl
        split at h0
        · rename_i H₂ h2
          cases h0
          rw [exec_Assign_Name_used _ _ _ _ hsw]
          refine wpAny_bind (wpAny_standAt (wpAny_bind ?_))
          show wpAny _ A (do let _ ← comprehension (.ListComp elt [⟨.Name (nm x) px, iter, ifs, 0⟩] scope pos) scope env _ (newList []) false (eval iter env) (some (assign (.Name (nm y) py) env))) _ _ s
          refine wpAny_bind (wpAny_mono (wpAny_comprehension_free (use := some (assign (.Name (nm y) py) env)) (Q := fun _ s' => Q .next s') (E := E) rfl hs sc.clos sc.kind sc.names
            (hi W a I h1 fun ρ₁ g₁ t₁ r₁ S₁ P₁ v₁ => src_iter (s := { s with heap := g₁, toks := t₁ }) P₁ hl (hp.imp id fun z => z _ _ _ _ h1) v₁ fun g₂ kp₂ x₂ => ?_)) (fun _ s' hq => wpAny_pure (wpAny_pure hq)) fun _ _ e => e)
          have fresh : g₁.get? g₁.objs.size = none := size_none _
          have S₂ : Step ρ₁ g₁ ρ₁ g₂ := Step.keeps kp₂
          have I₁ := I.next S₁ P₁
          have I₂ := I₁.next S₂ (P₁.keeps kp₂)
          refine compBlock (s := { s with heap := g₂, toks := t₁ }) (RR := fun acc C => compPost (model PG w) A E (some (assign (.Name (nm y) py) env)) (fun _ s' => Q .next s') acc C) sc W a I₂ ht hf x₂ h2 (fun (m : g₁.objs.size ∈ ρ₁) => P₁.there _ m fresh) (fun y z => ?_) (fun f m z => ?_) I₁.fok.big fun C Da ρ' h' tk nC bC fC ns S P av => ?_
          · obtain ⟨_, _, _, o, v, g, _⟩ := I₁.cells _ _ z
            have g : g₁.get? g₁.objs.size = some o := g
            rw [fresh] at g; cases g
          · obtain ⟨o, g, _⟩ := funFrames_get I₁.fok.frs f m _ z
            have g : g₁.get? g₁.objs.size = some o := g
            rw [fresh] at g; cases g
          · obtain ⟨m, ns⟩ := ns
            have fC₁ : g₁.get? C = none := none_of' kp₂ fC
            have S₃ : Step ρ₁ g₁ ρ' h' := ⟨S.pre, fun b ob g n => S.kept b ob (kp₂ b ob g) n (fun (z : b = g₁.objs.size) => by rw [z, fresh] at g; cases g), fun b m n => none_of' kp₂ (S.new b m n)⟩
            have I₃ := I₁.next S₃ P
            have nCl : C ≠ env.locals := fun z => I₁.ownThere _ (.inl rfl) (z ▸ fC₁)
            have nCc : ∀ y, env.cells.lookup y ≠ some C := fun y z => by
              obtain ⟨_, _, _, o, v, g, _⟩ := I₁.cells _ _ z
              rw [fC₁] at g; cases g
            have nCo : ¬ own env C := fun z => I₁.ownThere _ z fC₁
            show wpAny _ A (assign (.Name (nm y) py) env (.ref Da)) _ _ _
            refine wpAny_assign_Name (storeVar (s := { s with heap := h', toks := tk }) I₃ hy lt av fun h₄ tk₄ S₄ I₄ => ?_)
            have ns₄ : h₄.Ns C m := by
              obtain ⟨oL, es, ep, gL, r⟩ := ns
              exact ⟨oL, es, ep, S₄.kept C oL gL nC nCo, r⟩
            refine ⟨m, ns₄, fun h₅ sb => ?_⟩
            have kp : ∀ b o, b ≠ C → h₄.get? b = some o → h₅.get? b = some o := fun b o nb g => (sb.2 b nb).trans g
            have I₅ := I₄.but (ns_plain ns₄ kp) nC nCl nCc (fun f m z => by
              obtain ⟨o, g, _⟩ := funFrames_get I₁.fok.frs f m _ z
              rw [fC₁] at g; cases g) bC kp
            refine q ρ' h₅ tk₄ _ ⟨?_, fun b ob g n no => ?_, fun b m n => ?_⟩ I₅ rfl
            · exact (S₁.trans S₃).pre
            · have g₁' := S₁.kept b ob g n
              have n₁ : b ∉ ρ₁ := fun m => by have := S₁.new b m n; rw [g] at this; cases this
              have g₃ := S₃.kept b ob g₁' n₁
              have n₃ : b ∉ ρ' := fun m => by have := S₃.new b m n₁; rw [g₁'] at this; cases this
              exact kp b ob (fun z => by rw [z, fC₁] at g₁'; cases g₁') (S₄.kept b ob g₃ n₃ no)
            · exact (S₁.trans S₃).new b m n
        · cases h0
      · cases h0
    · cases h0
  · cases e
theorem noRef_range (g : LD) : NoRef (dRange g) := fun σ H v H' e j z => by
  unfold dRange at e
  split at e
  · cases e; cases z
  · cases e; cases z
  · split at e
    · cases e; cases z
    · cases e
  · cases e
theorem noRef_tup (g : LD) : NoRef (dTup g) := fun σ H v H' e j z => by
  unfold dTup at e
  split at e
  · split at e
    · cases e; cases z
    · cases e
  · cases e
end
end Mine
end
/-! part D13 -/
section
open PySem PySem.W PyProof.Rows
set_option maxRecDepth 100000
set_option linter.unusedVariables false
namespace Mine
section
variable {w : World} {base : Heap} {k : Nat} {env : Env}
noncomputable def idsOkB (env : Env) (scope : Scope) (ids : List Nat) : Bool := ids.all fun i => ((relabel scope env).names.lookup (nm i) == some .cell || (relabel scope env).names.lookup (nm i) == some .free) && env.kindOf (nm i) != some .local
theorem idsOk_of {scope : Scope} {ids : List Nat} (h : idsOkB env scope ids = true) : ∀ i ∈ ids, ((relabel scope env).names.lookup (nm i) = some .cell ∨ (relabel scope env).names.lookup (nm i) = some .free) ∧ env.kindOf (nm i) ≠ some .local := fun i m => by
  have := List.all_eq_true.mp h i m
  rw [Bool.and_eq_true, Bool.or_eq_true] at this
  exact ⟨this.1.imp eq_of_beq eq_of_beq, fun z => by rw [z] at this; simp at this⟩
theorem pure_dTT : PureT dTT := fun σ H b H' e => by cases e; rfl
theorem pure_dFF : PureT dFF := fun σ H b H' e => by cases e; rfl
theorem pure_dInt (i : Int) : PureE (dInt i) := fun σ H b H' e => by cases e; rfl
theorem pure_dVar (i : Nat) : PureE (dVar i) := fun σ H b H' e => by
  unfold dVar at e
  split at e <;> cases e
  rfl
theorem pure_dBin {op : Int → Int → Option Int} {f g : ED} (hf : PureE f) (hg : PureE g) : PureE (dBin op f g) := fun σ H b H' e => by
  unfold dBin at e
  split at e
  · rename_i h1
    split at e
    · rename_i h2
      split at e
      · cases e
        rw [hg _ _ _ _ h2, hf _ _ _ _ h1]
      · cases e
    · cases e
  · cases e
theorem pure_dCmp {c : Int → Int → Bool} {f g : ED} (hf : PureE f) (hg : PureE g) : PureT (dCmp c f g) := fun σ H b H' e => by
  unfold dCmp at e
  split at e
  · rename_i h1
    split at e
    · rename_i h2
      cases e
      rw [hg _ _ _ _ h2, hf _ _ _ _ h1]
    · cases e
  · cases e
theorem pure_dOr {f g : TD} (hf : PureT f) (hg : PureT g) : PureT (dOr f g) := fun σ H b H' e => by
  unfold dOr at e
  split at e
  · rename_i h1
    rw [hg _ _ _ _ e, hf _ _ _ _ h1]
  · exact hf _ _ _ _ e
theorem pure_dAttr {f : ED} {i : Nat} (hf : PureE f) : PureE (dAttr f i) := fun σ H b H' e => by
  unfold dAttr at e
  split at e
  · rename_i h1
    split at e
    · split at e
      · cases e
        exact hf _ _ _ _ h1
      · cases e
    · cases e
  · cases e
theorem pure_dItem {f g : ED} (hf : PureE f) (hg : PureE g) : PureE (dItem f g) := fun σ H b H' e => by
  unfold dItem at e
  split at e
  · rename_i h1
    split at e
    · rename_i h2
      split at e
      · cases e
        rw [hg _ _ _ _ h2, hf _ _ _ _ h1]
      · cases e
    · cases e
  · cases e

noncomputable def intG (K : Frag) (x : Str) (i : Int) : Bool := match nsIn K mainGlobals x with | some (some (.int j _)) => j == i | _ => false
theorem dKI_ok {x : Str} {p : Pos} {i : Int} (hx : env.kindOf x = some .globalImplicit) (hv : ∀ P, intG (hd.heap_39 P) x i = true) (hd' : (x == ("__debug__" : Str)) = false) : DenE w base k env (.Name x p) (dK (.int i)) := by
  intro A fs σ ρ H v H' s Q E W ax I e q
  cases e
  obtain ⟨mean, mg, mb, T⟩ := W.T
  have h := hv w.params
  unfold intG at h
  split at h
  · rename_i j t hj
    refine Calls.Name_function_global I.envk hx ?_ hd'
    exact Calls.loadGlobal_global (mg := mg) (by rw [I.envg]; exact T.g.keeps I.hp.stay) (mg_of W.X T.g hj) (q ρ s.heap s.toks _ (.refl ..) I.hp (by unfold AVis; exact ⟨t, by rw [eq_of_beq h]⟩))
  · cases h
noncomputable def sStuck : SD := fun _ _ => Option.none
theorem sStuck_ok {m : Sem Flow} : DenS w base k env m sStuck := by
  intro A outer σ ρ H oc σ' H' s Q E W a I e q qe
  cases e
end
end Mine
end
/-! part D14 -/
section
open PySem PySem.W PyProof.Rows
set_option maxRecDepth 100000
set_option linter.unusedVariables false
namespace Mine
section
variable {A : Around} {E : Value → Shared → Prop} {s : Shared} {w : World}

theorem nei {a b : Nat} (h : a < b ∨ b < a) : a ≠ b := h.elim Nat.ne_of_lt Nat.ne_of_gt
theorem next_tup {it t : Addr} {i : Nat} {items : Array Value} {x : Value} {Q : Value → Shared → Prop} (hit : s.heap.IsTupleIter it t i)
    (ht : s.heap.IsTuple t items) (hx : items[i]? = some x) (hQ : ∀ h', h'.IsTupleIter it t (i + 1) → Heap.SameBut it s.heap h' → Q x { s with heap := h' }) :
    wpAny (model PG w) A (Builtin.SmallTypes.nextOf (.ref it)) Q E s := by
  obtain ⟨o, ho, hc, hd⟩ := id hit
  obtain ⟨ol, hol, _, nl, hdl⟩ := ht
  unfold Builtin.SmallTypes.nextOf
  refine wpAny_bind (wpAny_callSpecial?_slot (name := Str.ofString "__next__") hit.typeIs F.slot_tuple_iterator_next
    (wpAny_call_entry F.slot_tuple_iterator_next hit.typeIs F.entry_tuple_iterator_next ?_ (F.args_tuple_iterator_next_1 _)))
  show wpAny _ _ (field (.ref it) 0 >>= _) _ _ s
  refine wpAny_bind (wpAny_field ho hd (x := .ref t) rfl ?_)
  show wpAny _ _ (if (Value.ref t == Value.none) = true then _ else _) _ _ s
  rw [if_neg (show ¬ ((Value.ref t == Value.none) = true) from Bool.false_ne_true)]
  show wpAny _ _ (field (.ref it) 1 >>= _) _ _ s
  refine wpAny_bind (wpAny_field ho hd (x := .int i 0) rfl ?_)
  show wpAny _ _ (seqItems? (.ref t) >>= _) _ _ s
  refine wpAny_bind (wpAny_seqItems hol hdl ?_)
  simp only [Int.toNat_natCast, hx]
  refine wpAny_bind (wpAny_setField ho hd (by simp) (wpAny_pure ⟨x, rfl, wpAny_pure (hQ _ ?_ (Heap.SameBut.update ..))⟩))
  exact ⟨_, Heap.get?_update_self _ ho (Obj.isFreed_of_fields (Obj.data_mapFields hd _)), (Obj.cls_mapFields ..).trans hc, by
    rw [Obj.data_mapFields hd]; simp [rawInt]⟩
theorem end_tup {it t : Addr} {i : Nat} {items : Array Value} {Q : Value → Shared → Prop} (hh : A.handled = none) (hit : s.heap.IsTupleIter it t i) (ht : s.heap.IsTuple t items) (hx : items[i]? = none)
    (hE : ∀ h' e, Heap.ExtBut it s.heap h' → (∃ o, h'.get? e = some o ∧ o.cls = .type "StopIteration") → E (.ref e) { s with heap := h' }) :
    wpAny (model PG w) A (Builtin.SmallTypes.nextOf (.ref it)) Q E s := by
  obtain ⟨o, ho, hc, hd⟩ := id hit
  obtain ⟨ol, hol, _, nl, hdl⟩ := ht
  unfold Builtin.SmallTypes.nextOf
  refine wpAny_bind (wpAny_callSpecial?_slot (name := Str.ofString "__next__") hit.typeIs F.slot_tuple_iterator_next
    (wpAny_call_entry F.slot_tuple_iterator_next hit.typeIs F.entry_tuple_iterator_next ?_ (F.args_tuple_iterator_next_1 _)))
  show wpAny _ _ (field (.ref it) 0 >>= _) _ _ s
  refine wpAny_bind (wpAny_field ho hd (x := .ref t) rfl ?_)
  show wpAny _ _ (if (Value.ref t == Value.none) = true then _ else _) _ _ s
  rw [if_neg (show ¬ ((Value.ref t == Value.none) = true) from Bool.false_ne_true)]
  show wpAny _ _ (field (.ref it) 1 >>= _) _ _ s
  refine wpAny_bind (wpAny_field ho hd (x := .int i 0) rfl ?_)
  show wpAny _ _ (seqItems? (.ref t) >>= _) _ _ s
  refine wpAny_bind (wpAny_seqItems hol hdl ?_)
  simp only [Int.toNat_natCast, hx]
  refine wpAny_bind (wpAny_rule (wpAny_bind (wpAny_setField ho hd (by simp) ?_)))
  show wpAny _ _ (newExc (.type "StopIteration") [] >>= _) _ _ _
  refine wpAny_bind ?_
  simp only [newExc, newTuple]
  refine wpAny_bind (wpAny_newObj_type ?_ (by size_fits))
  refine wpAny_bind (m := firstArgMember _ _) (wpAny_of_eq (a := Value.none) (by first | rfl | (simp only [firstArgMember]; rfl)) ?_)
  refine wpAny_newObj_type ?_ (by size_fits)
  simp only [raiseNew]
  refine wpAny_bind (wpAny_handled ?_)
  first | rw [show A.in1.handled = none from hh] | rw [hh]
  exact wpAny_bind (wpAny_pure (wpAny_throw (hE _ _ (((Heap.SameBut.update ..).extBut.push _).push _) ⟨_, Heap.get?_push_size _ rfl, rfl⟩)))

/-- what a zip of two tuples is made of -/
structure ZOk (h : Heap) (n t1 t2 : Nat) (xs ys : Array Value) (k : Nat) (f0 : Value) : Prop where
  z : IsZip h (n + 4) (n + 2) (n + 3) f0
  TI : IsPair h (n + 2) (.ref n) (.ref (n + 1))
  TO : ∃ a b, IsPair h (n + 3) a b
  it1 : h.IsTupleIter n t1 k
  it2 : h.IsTupleIter (n + 1) t2 k
  tu1 : h.IsTuple t1 xs
  tu2 : h.IsTuple t2 ys
  lt1 : t1 < n
  lt2 : t2 < n
theorem ext_tup {h h' : Heap} {a b : Addr} {items : Array Value} (x : h.IsTuple a items) (hs : ∀ c o, c ≠ b → h.get? c = some o → h'.get? c = some o) (hab : a ≠ b) : h'.IsTuple a items := let ⟨o, ho, r⟩ := x; ⟨o, hs a o hab ho, r⟩
theorem ext_it {h h' : Heap} {a b t : Addr} {i : Nat} (x : h.IsTupleIter a t i) (hs : ∀ c o, c ≠ b → h.get? c = some o → h'.get? c = some o) (hab : a ≠ b) : h'.IsTupleIter a t i := let ⟨o, ho, r⟩ := x; ⟨o, hs a o hab ho, r⟩
theorem sb_ext {b : Addr} {h h' : Heap} (x : Heap.SameBut b h h') : ∀ c o, c ≠ b → h.get? c = some o → h'.get? c = some o := fun c o n e => (x.2 c n).trans e

theorem zip_step {n t1 t2 : Nat} {xs ys : Array Value} {k : Nat} {x y : Value} {Q : Option Value → Shared → Prop} (Z : ZOk s.heap n t1 t2 xs ys k .none) (hx : xs[k]? = some x) (hy : ys[k]? = some y)
    (hQ : ∀ h' (T : Nat), ZOk h' n t1 t2 xs ys (k + 1) (rawInt T) → IsPair h' T x y → s.heap.get? T = none → (∀ (c : Nat) o, c < n → s.heap.get? c = some o → h'.get? c = some o) → (∀ (c : Nat) o, n + 4 < c → s.heap.get? c = some o → h'.get? c = some o) → T ≠ n + 4 → Q (some (.ref T)) { s with heap := h' }) :
    wpAny (model PG w) A (pyNext (.ref (n + 4))) Q E s := by
  obtain ⟨hz, hTI, ⟨a, b, hTO⟩, h1, h2, hl1, hl2, lt1, lt2⟩ := Z
  have hT : s.TypeIs (.ref (n + 4)) "zip" := ⟨_, hz, rfl⟩
  unfold pyNext
  refine wpAny_bind (wpAny_attempt (wpAny_callSpecial?_slot (name := Str.ofString "__next__") hT F.slot_zip_next
    (wpAny_call_entry F.slot_zip_next hT F.entry_zip_next ?_ (F.args_zip_next_1 _))))
  show wpAny _ _ (field (.ref (n + 4)) 2 >>= _) _ _ _
  refine wpAny_bind (wpAny_field hz rfl (x := .bool false) rfl ?_)
  show wpAny _ _ (field (.ref (n + 4)) 3 >>= _) _ _ _
  refine wpAny_bind (wpAny_field hz rfl (x := .ref (n + 2)) rfl ?_)
  refine wpAny_bind (wpAny_seqItems hTI rfl ?_)
  show wpAny _ _ (Builtin.SmallTypes.ownedTupleIsFree (.ref (n + 4)) >>= _) _ _ _
  refine wpAny_bind ?_
  unfold Builtin.SmallTypes.ownedTupleIsFree
  refine wpAny_bind (wpAny_field hz rfl (x := .none) rfl (wpAny_pure ?_))
  simp only [if_true]
  refine wpAny_bind (wpAny_rule ?_)
  refine wpAny_bind (wpAny_field hz rfl (x := .ref (n + 3)) rfl ?_)
  refine wpAny_bind (wpAny_setField_rec hz (by simp) fun h₁ hz₁ hs₁ => ?_)
  replace hz₁ : IsZip h₁ (n + 4) (n + 2) (n + 3) .ellipsis := hz₁
  have e₁ := sb_ext hs₁
  refine wpAny_bind ?_
  simp only [List.zipIdx_cons, List.zipIdx_nil, List.forIn_cons, List.forIn_nil]
  refine wpAny_bind (wpAny_bind (wpAny_onRaise ?_))
  show wpAny _ _ (Builtin.SmallTypes.nextOf (.ref n) >>= _) _ _ _
  refine wpAny_bind (next_tup (ext_it h1 e₁ (nei (by omega))) (ext_tup hl1 e₁ (nei (by omega))) hx fun h₂ h1₂ hs₂ => wpAny_pure ?_)
  have e₂ := sb_ext hs₂
  have hTO₂ : IsPair h₂ (n + 3) a b := e₂ _ _ (nei (by omega)) (e₁ _ _ (nei (by omega)) hTO)
  refine wpAny_bind (wpAny_seqItems hTO₂ rfl ?_)
  refine wpAny_bind (wpAny_updateSeq_pair hTO₂ fun h₃ hTO₃ hs₃ => ?_)
  have e₃ := sb_ext hs₃
  replace hTO₃ : IsPair h₃ (n + 3) x b := hTO₃
  refine wpAny_bind (wpAny_letGo (wpAny_pure ?_))
  refine wpAny_bind (wpAny_bind (wpAny_onRaise ?_))
  show wpAny _ _ (Builtin.SmallTypes.nextOf (.ref (n + 1)) >>= _) _ _ _
  refine wpAny_bind (next_tup (ext_it (ext_it (ext_it h2 e₁ (nei (by omega))) e₂ (nei (by omega))) e₃ (nei (by omega))) (ext_tup (ext_tup (ext_tup hl2 e₁ (nei (by omega))) e₂ (nei (by omega))) e₃ (nei (by omega))) hy fun h₄ h2₄ hs₄ => wpAny_pure ?_)
  have e₄ := sb_ext hs₄
  have hTO₄ : IsPair h₄ (n + 3) x b := e₄ _ _ (nei (by omega)) hTO₃
  refine wpAny_bind (wpAny_seqItems hTO₄ rfl ?_)
  refine wpAny_bind (wpAny_updateSeq_pair hTO₄ fun h₅ hTO₅ hs₅ => ?_)
  have e₅ := sb_ext hs₅
  replace hTO₅ : IsPair h₅ (n + 3) x y := hTO₅
  refine wpAny_bind (wpAny_letGo (wpAny_pure (wpAny_pure ?_)))
  refine wpAny_bind (wpAny_seqItems hTO₅ rfl ?_)
  refine wpAny_bind (wpAny_newTuple ?_)
  have hsz : h₅.objs.size = s.heap.objs.size := by rw [hs₅.1, hs₄.1, hs₃.1, hs₂.1, hs₁.1]
  have hz₅ : IsZip h₅ (n + 4) (n + 2) (n + 3) .ellipsis := e₅ _ _ (nei (by omega)) (e₄ _ _ (nei (by omega)) (e₃ _ _ (nei (by omega)) (e₂ _ _ (nei (by omega)) hz₁)))
  have hk₅ : ∀ c o, c ≠ n + 4 → c ≠ n + 3 → c ≠ n → c ≠ n + 1 → s.heap.get? c = some o → h₅.get? c = some o := fun c o c1 c2 c3 c4 e =>
    e₅ _ _ c2 (e₄ _ _ c4 (e₃ _ _ c2 (e₂ _ _ c3 (e₁ _ _ c1 e))))
  have h1₅ : h₅.IsTupleIter n t1 (k + 1) := ext_it (ext_it (ext_it h1₂ e₃ (nei (by omega))) e₄ (nei (by omega))) e₅ (nei (by omega))
  have h2₅ : h₅.IsTupleIter (n + 1) t2 (k + 1) := ext_it h2₄ e₅ (nei (by omega))
  have hzlt : n + 4 < h₅.objs.size := Heap.lt_size hz₅
  show wpAny _ _ (Builtin.SmallTypes.ownedTupleHandOut (.ref (n + 4)) (.ref h₅.objs.size) >>= _) _ _ _
  refine wpAny_bind ?_
  unfold Builtin.SmallTypes.ownedTupleHandOut
  have hz₆ : IsZip (h₅.push { cls := .type "tuple", data := .seq #[x, y] }) (n + 4) (n + 2) (n + 3) .ellipsis := Heap.get?_push_of_some _ hz₅
  refine wpAny_bind (wpAny_setField_rec hz₆ (by simp) fun h₇ hz₇ hs₇ => ?_)
  replace hz₇ : IsZip h₇ (n + 4) (n + 2) (n + 3) (rawInt h₅.objs.size) := hz₇
  refine wpAny_setField_rec hz₇ (by simp) fun h₈ hz₈ hs₈ => ?_
  replace hz₈ : IsZip h₈ (n + 4) (n + 2) (n + 3) (rawInt h₅.objs.size) := hz₈
  have up : ∀ c o, c ≠ n + 4 → h₅.get? c = some o → h₈.get? c = some o := fun c o c1 e => sb_ext hs₈ _ _ c1 (sb_ext hs₇ _ _ c1 (Heap.get?_push_of_some _ e))
  have hT₈ : IsPair h₈ h₅.objs.size x y := sb_ext hs₈ _ _ (Nat.ne_of_gt hzlt) (sb_ext hs₇ _ _ (Nat.ne_of_gt hzlt) (Heap.get?_push_size _ rfl))
  refine wpAny_pure ⟨_, rfl, wpAny_pure ?_⟩
  have kp : ∀ c o, c ≠ n + 4 → c ≠ n + 3 → c ≠ n → c ≠ n + 1 → s.heap.get? c = some o → h₈.get? c = some o := fun c o c1 c2 c3 c4 e => up c o c1 (hk₅ c o c1 c2 c3 c4 e)
  refine hQ h₈ h₅.objs.size ⟨hz₈, kp _ _ (nei (by omega)) (nei (by omega)) (nei (by omega)) (nei (by omega)) hTI, ⟨x, y, up _ _ (nei (by omega)) hTO₅⟩, ?_, ?_, ?_, ?_, lt1, lt2⟩ hT₈ ?_
    (fun c o hc e => kp c o (nei (by omega)) (nei (by omega)) (nei (by omega)) (nei (by omega)) e) (fun c o hc e => kp c o (nei (by omega)) (nei (by omega)) (nei (by omega)) (nei (by omega)) e) (Nat.ne_of_gt hzlt)
  · obtain ⟨o, e, r⟩ := h1₅; exact ⟨o, up _ _ (nei (by omega)) e, r⟩
  · obtain ⟨o, e, r⟩ := h2₅; exact ⟨o, up _ _ (nei (by omega)) e, r⟩
  · obtain ⟨o, e, r⟩ := hl1; exact ⟨o, kp _ _ (nei (by omega)) (nei (by omega)) (nei (by omega)) (nei (by omega)) e, r⟩
  · obtain ⟨o, e, r⟩ := hl2; exact ⟨o, kp _ _ (nei (by omega)) (nei (by omega)) (nei (by omega)) (nei (by omega)) e, r⟩
  · rw [hsz]; exact size_none _
theorem zip_end {n t1 t2 : Nat} {xs ys : Array Value} {k : Nat} {Q : Option Value → Shared → Prop} (hh : A.handled = none) (Z : ZOk s.heap n t1 t2 xs ys k .none) (hx : xs[k]? = none)
    (hQ : ∀ h', (∀ (c : Nat) o, c < n → s.heap.get? c = some o → h'.get? c = some o) → (∀ (c : Nat) o, n + 4 < c → s.heap.get? c = some o → h'.get? c = some o) → Q none { s with heap := h' }) :
    wpAny (model PG w) A (pyNext (.ref (n + 4))) Q E s := by
  obtain ⟨hz, hTI, ⟨a, b, hTO⟩, h1, h2, hl1, hl2, lt1, lt2⟩ := Z
  have hT : s.TypeIs (.ref (n + 4)) "zip" := ⟨_, hz, rfl⟩
  unfold pyNext
  refine wpAny_bind (wpAny_attempt (wpAny_callSpecial?_slot (name := Str.ofString "__next__") hT F.slot_zip_next
    (wpAny_call_entry F.slot_zip_next hT F.entry_zip_next ?_ (F.args_zip_next_1 _))))
  show wpAny _ _ (field (.ref (n + 4)) 2 >>= _) _ _ _
  refine wpAny_bind (wpAny_field hz rfl (x := .bool false) rfl ?_)
  show wpAny _ _ (field (.ref (n + 4)) 3 >>= _) _ _ _
  refine wpAny_bind (wpAny_field hz rfl (x := .ref (n + 2)) rfl ?_)
  refine wpAny_bind (wpAny_seqItems hTI rfl ?_)
  show wpAny _ _ (Builtin.SmallTypes.ownedTupleIsFree (.ref (n + 4)) >>= _) _ _ _
  refine wpAny_bind ?_
  unfold Builtin.SmallTypes.ownedTupleIsFree
  refine wpAny_bind (wpAny_field hz rfl (x := .none) rfl (wpAny_pure ?_))
  simp only [if_true]
  refine wpAny_bind (wpAny_rule ?_)
  refine wpAny_bind (wpAny_field hz rfl (x := .ref (n + 3)) rfl ?_)
  refine wpAny_bind (wpAny_setField_rec hz (by simp) fun h₁ hz₁ hs₁ => ?_)
  replace hz₁ : IsZip h₁ (n + 4) (n + 2) (n + 3) .ellipsis := hz₁
  have e₁ := sb_ext hs₁
  refine wpAny_bind ?_
  simp only [List.zipIdx_cons, List.zipIdx_nil, List.forIn_cons, List.forIn_nil]
  refine wpAny_bind (wpAny_bind (wpAny_onRaise ?_))
  show wpAny _ _ (Builtin.SmallTypes.nextOf (.ref n) >>= _) _ _ _
  refine wpAny_bind (end_tup hh (ext_it h1 e₁ (nei (by omega))) (ext_tup hl1 e₁ (nei (by omega))) hx fun h₂ e hs₂ he => ?_)
  obtain ⟨oe, hoe, hce⟩ := he
  have hz₂ : IsZip h₂ (n + 4) (n + 2) (n + 3) .ellipsis := hs₂ _ _ (nei (by omega)) hz₁
  have hez : e ≠ n + 4 := fun x => by subst x; rw [hz₂] at hoe; cases hoe; simp at hce
  refine wpAny_setField_rec hz₂ (by simp) fun h₃ _ hs₃ => ?_
  refine wpAny_bind (wpAny_isInstance (T := "StopIteration") (b := true) ⟨oe, sb_ext hs₃ _ _ hez hoe, hce⟩ isSubtype_stop ?_)
  refine wpAny_pure (hQ _ (fun c o hc x => ?_) fun c o hc x => ?_)
  · exact sb_ext hs₃ _ _ (nei (by omega)) (hs₂ _ _ (nei (by omega)) (e₁ _ _ (nei (by omega)) x))
  · exact sb_ext hs₃ _ _ (nei (by omega)) (hs₂ _ _ (nei (by omega)) (e₁ _ _ (nei (by omega)) x))
theorem zip_go {n t1 t2 T : Nat} {xs ys : Array Value} {k : Nat} {elts : List Expr} {x1} {pos : Pos} {Q : Unit → Shared → Prop} (Z : ZOk s.heap n t1 t2 xs ys k (rawInt T))
    (hQ : ∀ h', ZOk h' n t1 t2 xs ys k .none → (∀ c o, c ≠ n + 4 → s.heap.get? c = some o → h'.get? c = some o) → Q () { s with heap := h' }) :
    wpAny (model PG w) A (letOwnedTupleGo (.Tuple elts x1 pos) (.ref (n + 4)) (.ref T)) Q E s := by
  obtain ⟨hz, hTI, ⟨a, b, hTO⟩, h1, h2, hl1, hl2, lt1, lt2⟩ := Z
  refine wpAny_letOwnedTupleGo_zip hz fun h' hz' sb => ?_
  have e := sb_ext sb
  exact hQ h' ⟨hz', e _ _ (nei (by omega)) hTI, ⟨a, b, e _ _ (nei (by omega)) hTO⟩, ext_it h1 e (nei (by omega)), ext_it h2 e (nei (by omega)), ext_tup hl1 e (nei (by omega)), ext_tup hl2 e (nei (by omega)), lt1, lt2⟩ e
noncomputable abbrev zT1 (h : Heap) (l1 : Addr) : Heap := h.push { cls := .type "tuple_iterator", data := .fields #[.ref l1, .int 0 0] }
noncomputable abbrev zT2 (h : Heap) (l1 l2 : Addr) : Heap := (zT1 h l1).push { cls := .type "tuple_iterator", data := .fields #[.ref l2, .int 0 0] }
noncomputable abbrev zT3 (h : Heap) (l1 l2 : Addr) : Heap := (zT2 h l1 l2).push { cls := .type "tuple", data := .seq #[.ref h.objs.size, .ref (zT1 h l1).objs.size] }
noncomputable abbrev zT4 (h : Heap) (l1 l2 : Addr) : Heap := (zT3 h l1 l2).push { cls := .type "tuple", data := .seq #[.none, .none] }
noncomputable abbrev zT5 (h : Heap) (l1 l2 : Addr) : Heap := (zT4 h l1 l2).push { cls := .type "zip", data := .fields #[.none, .bool false, .bool false, .ref (zT2 h l1 l2).objs.size, .ref (zT3 h l1 l2).objs.size] }
theorem meets_zipT (l1 l2 : Addr) (xs ys : Array Value) :
    Meets (Builtin.«zip.__new__» ⟨[.type "zip", .ref l1, .ref l2], []⟩) (fun _ R s => s.heap.IsTuple l1 xs ∧ s.heap.IsTuple l2 ys ∧
      R (.ok (.ret (.ref (zT4 s.heap l1 l2).objs.size))) { s with heap := zT5 s.heap l1 l2 }) :=
  .of_wp fun prog w A R s h => by
    obtain ⟨hp, g, d, tk, os⟩ := s; obtain ⟨hl1, hl2, h⟩ := h
    have hsub := sub_zip
    have hL1 : Heap.IsTuple (Shared.heap ⟨hp, g, d, tk, os⟩) l1 xs := hl1
    have hL2 : Heap.IsTuple (Shared.heap ⟨hp.push { cls := .type "tuple_iterator", data := .fields #[.ref l1, .int 0 0] }, g, d, tk, os⟩) l2 ys := Heap.IsTuple.push hl2 _
    wp_walk using wpAny_pyIter_tuple hL1, wpAny_pyIter_tuple hL2
    exact ⟨_, rfl, h⟩
end
end Mine
end
/-! part D15 -/
section
open PySem PySem.W PyProof.Rows
set_option maxRecDepth 100000
set_option linter.unusedVariables false
namespace Mine
section
variable {w : World} {base : Heap} {k : Nat} {env : Env}

/-! expressions that leave the heap as it is -/
noncomputable def DenP (w : World) (base : Heap) (env : Env) (e : Expr) (f : ED) : Prop :=
  ∀ ⦃A : Around⦄ ⦃fs : List Env⦄ ⦃σ : AS⦄ ⦃ρ : List Addr⦄ ⦃H : AH⦄ ⦃v : AV⦄ ⦃H' : AH⦄ ⦃s : Shared⦄ ⦃Q : Value → Shared → Prop⦄ ⦃E : Value → Shared → Prop⦄,
    Wd w base → Inv w base env fs σ ρ H s.heap → f σ H = some (v, H') →
    (∀ tk r, H' = H → AVis s.heap ρ v r → Q r { s with toks := tk }) → wpAny (model PG w) A (eval e env) Q E s
theorem pInt_ok {i : Int} {kd : Nat} {p : Pos} : DenP w base env (.Constant (.int i) kd p) (dInt i) := by
  intro A fs σ ρ H v H' s Q E W I e q
  cases e
  exact wpAny_Constant_int (q _ _ rfl (by unfold AVis; exact ⟨_, rfl⟩))
theorem pVar_ok (i : Nat) {x : Str} {p : Pos} (hx : x = nm i) (lt : i < 86) : DenP w base env (.Name x p) (dVar i) := by
  intro A fs σ ρ H v H' s Q E W I e q
  subst hx
  unfold dVar at e
  split at e
  · rename_i v' hv
    cases e
    exact wpAny_Name (loadVar I hv fun r av => q s.toks r rfl av) (nm_dbg lt)
  · cases e
theorem pBin_ok {o : Operator} {op : Int → Int → Option Int} (ho : BinOk o op) {l r : Expr} {f g : ED} {p : Pos} (hf : DenP w base env l f) (hg : DenP w base env r g) : DenP w base env (.BinOp l o r p) (dBin op f g) := by
  intro A fs σ ρ H v H' s Q E W I e q
  unfold dBin at e
  split at e
  · rename_i x H₁ h1
    split at e
    · rename_i y H₂ h2
      split at e
      · rename_i z h3
        cases e
        refine wpAny_BinOp (hf W I h1 fun t₁ r₁ e₁ v₁ => ?_)
        subst e₁
        refine hg (s := { s with toks := t₁ }) W I h2 fun t₂ r₂ e₂ v₂ => ?_
        unfold AVis at v₁ v₂
        obtain ⟨_, rfl⟩ := v₁
        obtain ⟨_, rfl⟩ := v₂
        exact (ho (s := { s with toks := t₂ }) h3 fun tk t' => q tk _ e₂ (by unfold AVis; exact ⟨_, rfl⟩)).1
      · cases e
    · cases e
  · cases e
theorem pAttr_ok {e : Expr} {f : ED} {x : Str} (i : Nat) {p : Pos} (hx : x = nm i) (lt : i < 86) (hf : DenP w base env e f) (he : attributeBase e x env (eval e env) = eval e env) : DenP w base env (.Attribute e x p) (dAttr f i) := by
  intro A fs σ ρ H v H' s Q E W I e q
  subst hx
  unfold dAttr at e
  split at e
  · rename_i o H₁ h1
    split at e
    · rename_i d fs' h2
      split at e
      · rename_i v' h3
        cases e
        refine Attribute_any_ (hf W I h1 fun t₁ r₁ e₁ v₁ => ?_) (by rw [arm_eval_Attribute, he])
        subst e₁
        exact getAttr_ok (s := { s with toks := t₁ }) W I.hp lt h2 h3 v₁ fun r av => q _ r rfl av
      · cases e
    · cases e
  · cases e
theorem pItem_ok {e i : Expr} {f g : ED} {p : Pos} (hf : DenP w base env e f) (hg : DenP w base env i g) (hs : ∀ o x, subscripted i false o x = operate [o, x] (getItem o x)) : DenP w base env (.Subscript e i p) (dItem f g) := by
  intro A fs σ ρ H v H' s Q E W I e q
  unfold dItem at e
  split at e
  · rename_i o H₁ h1
    split at e
    · rename_i x H₂ h2
      split at e
      · rename_i v' h3
        cases e
        refine Subscript_ (hf W I h1 fun t₁ r₁ e₁ v₁ => ?_)
        subst e₁
        refine hg (s := { s with toks := t₁ }) W I h2 fun t₂ r₂ e₂ v₂ => ?_
        subst e₂
        obtain ⟨z, T, id, hT, hl⟩ := getItem_ok (A := A) (E := E) (s := { s with toks := t₂ }) I.hp h3 v₁ v₂ fun y av => q t₂ y rfl av
        exact tail_any hT hl z (hs _ _)
      · cases e
    · cases e
  · cases e
noncomputable def DenPT (w : World) (base : Heap) (env : Env) (e : Expr) (f : TD) : Prop :=
  ∀ ⦃A : Around⦄ ⦃fs : List Env⦄ ⦃σ : AS⦄ ⦃ρ : List Addr⦄ ⦃H : AH⦄ ⦃v : Bool⦄ ⦃H' : AH⦄ ⦃s : Shared⦄ ⦃Q : Bool → Shared → Prop⦄ ⦃E : Value → Shared → Prop⦄,
    Wd w base → Inv w base env fs σ ρ H s.heap → f σ H = some (v, H') →
    (∀ tk, H' = H → Q v { s with toks := tk }) → wpAny (model PG w) A (isTrue e env (eval e env)) Q E s
theorem pCmp_ok {o : CmpOp} {c : Int → Int → Bool} (ho : CmpOk o c) {l r : Expr} {f g : ED} {p : Pos} (hf : DenP w base env l f) (hg : DenP w base env r g) (hm : behindInMarks o r = false) :
    DenPT w base env (.Compare l [o] [r] p) (dCmp c f g) := by
  intro A fs σ ρ H v H' s Q E W I e q
  unfold dCmp at e
  split at e
  · rename_i x H₁ h1
    split at e
    · rename_i y H₂ h2
      cases e
      refine wpAny_isTrue_Compare1 (hf W I h1 fun t₁ r₁ e₁ v₁ => ?_) hm
      subst e₁
      refine hg (s := { s with toks := t₁ }) W I h2 fun t₂ r₂ e₂ v₂ => ?_
      unfold AVis at v₁ v₂
      obtain ⟨_, rfl⟩ := v₁
      obtain ⟨_, rfl⟩ := v₂
      exact ho (wpAny_truthy_bool (q t₂ e₂))
    · cases e
  · cases e

/-! for i, j in zip(f, g): if t: return i -/
noncomputable def dZip (i j : Nat) (t : TD) : List AV → List AV → SD
  | x :: xs, y :: ys => fun σ H => match t (put j y (put i x σ)) H with
    | some (true, H') => some (.ret x, put j y (put i x σ), H')
    | some (false, H') => dZip i j t xs ys (put j y (put i x σ)) H'
    | Option.none => Option.none
  | [], _ => fun σ H => some (.next, σ, H)
  | _, _ => fun _ _ => Option.none
noncomputable def sZip (f g : ED) (i j : Nat) (t : TD) : SD := fun σ H => match f σ H with
  | some (.tup xs, H₁) => (match g σ H₁ with
    | some (.tup ys, H₂) => dZip i j t xs ys σ H₂
    | _ => Option.none)
  | _ => Option.none

/-- the locals alone change -/
theorem Inv.locals {fs : List Env} {σ σ' : AS} {ρ : List Addr} {H : AH} {h h' : Heap} {m : Str → Option Value} (I : Inv w base env fs σ ρ H h) (ns : h'.Ns env.locals m) (kp : ∀ b o, b ≠ env.locals → h.get? b = some o → h'.get? b = some o)
    (hv : ∀ i v, lk i σ' = some v → VarAt env h' m ρ i v) : Inv w base env fs σ' ρ H h' ∧ Plain h h' := by
  have pl : Plain h h' := by
    obtain ⟨m', ns', _⟩ := I.vars
    exact ns_plain ns' kp
  refine ⟨⟨I.hp.butC pl I.locF I.locB kp, ⟨m, ns, hv⟩, I.locF, I.locB, ?_, I.cinj, ?_, I.envk, I.envg, I.envb⟩, pl⟩
  · intro y c cl
    obtain ⟨a, b, d, o, v', g, z⟩ := I.cells y c cl
    exact ⟨a, b, d, o, v', kp c o d g, z⟩
  · refine ⟨funFrames_re I.fok.frs fun e me L f => ?_, I.fok.frF, I.fok.frB, I.fok.ne⟩
    by_cases z : L = env.locals
    · subst z
      obtain ⟨oL, es, ep, gL, dL, _⟩ := ns
      exact ⟨oL, gL, fun vs d => by rw [dL] at d; cases d⟩
    · obtain ⟨o, g, d⟩ := funFrames_get I.fok.frs e me L f
      exact ⟨o, kp L o z g, d⟩


theorem ZOk.keep {h h' : Heap} {n t1 t2 L : Nat} {X Y : Array Value} {m : Nat} {f0 : Value} (Z : ZOk h n t1 t2 X Y m f0) (kp : ∀ b o, b ≠ L → h.get? b = some o → h'.get? b = some o) (hL : L < n) (n1 : t1 ≠ L) (n2 : t2 ≠ L) : ZOk h' n t1 t2 X Y m f0 := by
  obtain ⟨hz, hTI, ⟨a, b, hTO⟩, h1, h2, hl1, hl2, lt1, lt2⟩ := Z
  exact ⟨kp _ _ (nei (by omega)) hz, kp _ _ (nei (by omega)) hTI, ⟨a, b, kp _ _ (nei (by omega)) hTO⟩, ext_it h1 kp (nei (by omega)), ext_it h2 kp (nei (by omega)), ext_tup hl1 kp n1, ext_tup hl2 kp n2, lt1, lt2⟩
theorem ZOk.keep0 {h h' : Heap} {n t1 t2 : Nat} {X Y : Array Value} {m : Nat} {f0 : Value} (Z : ZOk h n t1 t2 X Y m f0) (kp : ∀ b o, h.get? b = some o → h'.get? b = some o) : ZOk h' n t1 t2 X Y m f0 := by
  obtain ⟨hz, hTI, ⟨a, b, hTO⟩, ⟨o1, e1, r1⟩, ⟨o2, e2, r2⟩, ⟨o3, e3, r3⟩, ⟨o4, e4, r4⟩, lt1, lt2⟩ := Z
  exact ⟨kp _ _ hz, kp _ _ hTI, ⟨a, b, kp _ _ hTO⟩, ⟨o1, kp _ _ e1, r1⟩, ⟨o2, kp _ _ e2, r2⟩, ⟨o3, kp _ _ e3, r3⟩, ⟨o4, kp _ _ e4, r4⟩, lt1, lt2⟩
theorem VarAt.mono {h h' : Heap} {m : Str → Option Value} {ρ : List Addr} {i : Nat} {v : AV} (x : VarAt env h m ρ i v) (pl : Plain h h') (kc : ∀ y c o, env.cells.lookup y = some c → h.get? c = some o → h'.get? c = some o) : VarAt env h' m ρ i v := by
  obtain ⟨lt, r, av, u⟩ := x
  exact ⟨lt, r, av.mono pl ⟨[], by simp⟩, u.imp id fun ⟨u1, c, o, u2, u3, u4⟩ => ⟨u1, c, o, u2, kc _ c o u2 u3, u4⟩⟩
theorem VarAt.other {h : Heap} {m m' : Str → Option Value} {ρ : List Addr} {i : Nat} {v : AV} (x : VarAt env h m ρ i v) (hm : m' (nm i) = m (nm i)) : VarAt env h m' ρ i v := by
  obtain ⟨lt, r, av, u⟩ := x
  exact ⟨lt, r, av, u.imp (fun ⟨a, b⟩ => ⟨a, hm.trans b⟩) id⟩

theorem dZip_run {i j : Nat} {pi pj pt pn p1 p2 : Pos} {kk : Nat} {c : Expr} {t : TD} (li : i < 86) (lj : j < 86) (hi : env.kindOf (nm i) = some .local) (hj : env.kindOf (nm j) = some .local) (hij : i ≠ j) (ht : DenPT w base env c t)
    {A : Around} {outer : List Env} {σ : AS} {ρ : List Addr} {H : AH} {oc : Oc} {σ' : AS} {H' : AH} {s : Shared} {xs ys : List AV} {X Y : Array Value} {n t1 t2 : Nat} {Q : Flow → Shared → Prop} {E : Value → Shared → Prop}
    (W : Wd w base) (a : Ax A (env :: outer) k) (I : Inv w base env (env :: outer) σ ρ H s.heap) (e : dZip i j t xs ys σ H = some (oc, σ', H')) (hX : AVall s.heap ρ xs X.toList) (hY : AVall s.heap ρ ys Y.toList)
    {h₁ : Heap} (kp₁ : ∀ b o, s.heap.get? b = some o → h₁.get? b = some o) (Z : ZOk h₁ n t1 t2 X Y 0 .none) (hn : n = s.heap.objs.size)
    (q : ∀ h' tk fl, StepX (own env) ρ s.heap ρ h' → Inv w base env (env :: outer) σ' ρ H' h' → FlIs h' ρ oc fl → Q fl { s with heap := h', toks := tk }) :
    codeAny (model PG w) A (.forLoop (.Tuple [.Name (nm i) pi, .Name (nm j) pj] kk pt) (.ref (n + 4)) [.If c [.Return (some (.Name (nm i) pn)) p1] [] p2] [] env) (fun r s' => match r with | .ok f => Q f s' | .error e => cameBackBy (model PG w) A env E e s') { s with heap := h₁ } := by
  obtain ⟨m₀, ns₀, hv₀⟩ := I.vars
  have lt₀ : ∀ {b : Nat} {o}, s.heap.get? b = some o → @LT.lt Nat _ b n := fun e => hn ▸ Heap.lt_size e
  obtain ⟨oL, gL, nL⟩ : ∃ oL, s.heap.get? env.locals = some oL ∧ ∀ ws k, oL.data ≠ .seq ws k := by
    obtain ⟨oL, es, ep, gL, dL, _⟩ := ns₀
    exact ⟨oL, gL, fun ws k z => by rw [dL] at z; cases z⟩
  have hL : @LT.lt Nat _ env.locals n := lt₀ gL
  have nt : ∀ {t : Nat} {W : Array Value}, h₁.IsTuple t W → t ≠ env.locals := fun {t W} x z => by
    obtain ⟨o, g, _, k, d⟩ := x
    rw [z, kp₁ _ _ gL] at g; cases g
    exact nL _ _ d
  have n1 := nt Z.tu1
  have n2 := nt Z.tu2
  refine codeAny_forLoop_any (fun mm s' => ∃ k σ₁ h' tk m, s' = { s with heap := h', toks := tk } ∧ mm = xs.length - k ∧ k ≤ xs.length ∧ (∀ b o, b ≠ env.locals → s.heap.get? b = some o → h'.get? b = some o) ∧ h'.Ns env.locals m ∧
    (∀ i v, lk i σ₁ = some v → VarAt env s.heap m ρ i v) ∧ ZOk h' n t1 t2 X Y k .none ∧ dZip i j t (xs.drop k) (ys.drop k) σ₁ H = some (oc, σ', H')) ?_ xs.length
    ⟨0, σ, h₁, s.toks, m₀, rfl, rfl, Nat.zero_le _, fun b o _ g => kp₁ b o g, (let ⟨oL, es, ep, g, r⟩ := ns₀; ⟨oL, es, ep, kp₁ _ _ g, r⟩), hv₀, Z, e⟩
  rintro mm s' ⟨k, σ₁, h', tk, m, rfl, rfl, hk, kp, ns, hv, Z', e₁⟩
  have inv : ∀ {h'' : Heap} {m' : Str → Option Value} {σ₂ : AS}, (∀ b o, b ≠ env.locals → s.heap.get? b = some o → h''.get? b = some o) → h''.Ns env.locals m' → (∀ i v, lk i σ₂ = some v → VarAt env s.heap m' ρ i v) → Inv w base env (env :: outer) σ₂ ρ H h'' := fun kp' ns' hv' => by
    have pl := ns_plain ns₀ kp'
    exact (I.locals ns' kp' fun i v e => (hv' i v e).mono pl fun y c o cl g => kp' c o (I.cells y c cl).2.2.1 g).1
  have stx : ∀ {h'' : Heap}, (∀ b o, b ≠ env.locals → s.heap.get? b = some o → h''.get? b = some o) → StepX (own env) ρ s.heap ρ h'' := fun kp' => ⟨⟨[], by simp⟩, fun b ob g _ no => kp' b ob (fun z => no (.inl z)) g, fun _ a b => absurd a b⟩
  by_cases hlt : k < xs.length
  · have hd := List.drop_eq_getElem_cons hlt
    rw [hd] at e₁
    cases hys : ys.drop k with
    | nil => rw [hys] at e₁; cases e₁
    | cons y yr =>
      rw [hys] at e₁
      obtain ⟨vx, hvx, ax⟩ := hX.get (List.getElem?_eq_getElem hlt)
      have hyk : ys[k]? = some y := by
        have := List.getElem?_drop (xs := ys) (i := k) (j := 0)
        rw [hys] at this
        simpa using this.symm
      have hyr : yr = ys.drop (k + 1) := by
        have : (ys.drop k).tail = yr := by rw [hys]; rfl
        rw [← this, List.tail_drop]
      obtain ⟨vy, hvy, ay⟩ := hY.get hyk
      refine zip_step Z' (by rw [← Array.getElem?_toList]; exact hvx) (by rw [← Array.getElem?_toList]; exact hvy) fun h₂ T Z₂ hT fT kl kg nT => ?_
      have kpT : ∀ b o, b ≠ env.locals → s.heap.get? b = some o → h₂.get? b = some o := fun b o nb g => kl b o (lt₀ g) (kp b o nb g)
      have ns₂ : h₂.Ns env.locals m := let ⟨oL, es, ep, g, r⟩ := ns; ⟨oL, es, ep, kl _ _ hL g, r⟩
      refine zip_go Z₂ fun h₃ Z₃ k₃ => ?_
      have kp₃ : ∀ b o, b ≠ env.locals → s.heap.get? b = some o → h₃.get? b = some o := fun b o nb g => k₃ b o (nei (.inl (Nat.lt_of_lt_of_le (lt₀ g) (Nat.le_add_right n 4)))) (kpT b o nb g)
      have ns₃ : h₃.Ns env.locals m := let ⟨oL, es, ep, g, r⟩ := ns₂; ⟨oL, es, ep, k₃ _ _ (nei (.inl (Nat.lt_of_lt_of_le hL (Nat.le_add_right n 4)))) g, r⟩
      refine wpAny_assign_Tuple a.hh ⟨_, k₃ _ _ nT hT, rfl, _, rfl⟩ rfl rfl fun h₄ x₄ => ?_
      have k₄ := extBut_size x₄
      have Z₄ := Z₃.keep0 k₄
      have kp₄ : ∀ b o, b ≠ env.locals → s.heap.get? b = some o → h₄.get? b = some o := fun b o nb g => k₄ b o (kp₃ b o nb g)
      have ns₄ : h₄.Ns env.locals m := let ⟨oL, es, ep, g, r⟩ := ns₃; ⟨oL, es, ep, k₄ _ _ g, r⟩
      show wpAny _ _ (do holding [vy] (assign (.Name (nm i) pi) env vx); do holding [] (assign (.Name (nm j) pj) env vy); pure ()) _ _ _
      refine wpAny_bind (wpAny_holding (wpAny_assign_Name (wpAny_storeName_local hi ns₄ (fun h₅ ns₅ sb₅ => ?_) (by rw [I.envk]; rfl))))
      have k₅ := sb_ext sb₅
      have Z₅ := Z₄.keep k₅ hL n1 n2
      have kp₅ : ∀ b o, b ≠ env.locals → s.heap.get? b = some o → h₅.get? b = some o := fun b o nb g => k₅ b o nb (kp₄ b o nb g)
      refine wpAny_bind (wpAny_holding (wpAny_assign_Name (wpAny_storeName_local hj ns₅ (fun h₆ ns₆ sb₆ => ?_) (by rw [I.envk]; rfl))))
      refine wpAny_pure ?_
      have k₆ := sb_ext sb₆
      have Z₆ := Z₅.keep k₆ hL n1 n2
      have kp₆ : ∀ b o, b ≠ env.locals → s.heap.get? b = some o → h₆.get? b = some o := fun b o nb g => k₆ b o nb (kp₅ b o nb g)
      have hv₆ : ∀ i' v, lk i' (put j y (put i xs[k] σ₁)) = some v → VarAt env s.heap (fun z => if z = nm j then some vy else if z = nm i then some vx else m z) ρ i' v := fun i' v e => by
        rw [lk_put, lk_put] at e
        by_cases z : i' = j
        · subst z
          rw [if_pos rfl] at e; cases e
          exact ⟨lj, vy, ay, .inl ⟨hj, if_pos rfl⟩⟩
        · rw [if_neg z] at e
          by_cases z' : i' = i
          · subst z'
            rw [if_pos rfl] at e; cases e
            exact ⟨li, vx, ax, .inl ⟨hi, by dsimp only; rw [if_neg fun u => z (nm_inj li lj u), if_pos rfl]⟩⟩
          · rw [if_neg z'] at e
            have V := hv i' v e
            exact V.other (by rw [if_neg fun u => z (nm_inj V.1 lj u), if_neg fun u => z' (nm_inj V.1 li u)])
      have I₆ := inv kp₆ ns₆ hv₆
      refine wpAny_execs_cons (wpAny_If ?_)
      unfold dZip at e₁
      split at e₁
      · rename_i H₂ h2
        cases e₁
        refine ht (s := { s with heap := h₆, toks := tk + 1 + 1 }) W I₆ h2 fun tk₇ eH => ?_
        subst eH
        rw [if_pos rfl]
        refine wpAny_execs_cons (wpAny_Return_some (wpAny_Name (loadVar (v := xs[k]) (s := { s with heap := h₆, toks := tk₇ }) I₆ (by rw [lk_put, lk_put, if_neg hij, if_pos rfl]) fun r av => ?_) (nm_dbg li)))
        exact q h₆ tk₇ _ (stx kp₆) I₆ ⟨r, rfl, av⟩
      · rename_i H₂ h2
        refine ht (s := { s with heap := h₆, toks := tk + 1 + 1 }) W I₆ h2 fun tk₇ eH => ?_
        subst eH
        rw [if_neg Bool.false_ne_true]
        refine wpAny_execs_nil (wpAny_execs_nil ⟨xs.length - (k + 1), by omega, k + 1, _, h₆, tk₇, _, rfl, rfl, hlt, kp₆, ns₆, hv₆, Z₆, ?_⟩)
        rw [← hyr]; exact e₁
      · cases e₁
  · have hk' : k = xs.length := by omega
    subst hk'
    have : xs.drop xs.length = [] := by simp
    rw [this] at e₁
    unfold dZip at e₁
    cases e₁
    have lx : X.size = xs.length := by rw [← hX.len]; simp
    refine zip_end a.hh Z' (Array.getElem?_eq_none (by omega)) fun h₂ kl kg => ?_
    have kp₂ : ∀ b o, b ≠ env.locals → s.heap.get? b = some o → h₂.get? b = some o := fun b o nb g => kl b o (lt₀ g) (kp b o nb g)
    have ns₂ : h₂.Ns env.locals m := let ⟨oL, es, ep, g, r⟩ := ns; ⟨oL, es, ep, kl _ _ hL g, r⟩
    exact wpAny_execs_nil (q h₂ tk _ (stx kp₂) (inv kp₂ ns₂ hv) rfl)
theorem sZip_ok (i j : Nat) {x y xn : Str} {fe e1 e2 c : Expr} {pi pj pt pn p1 p2 pc p : Pos} {kk : Nat} {f g : ED} {t : TD} (hx : x = nm i) (hy : y = nm j) (hxn : xn = nm i) (li : i < 86) (lj : j < 86) (hi : env.kindOf (nm i) = some .local) (hj : env.kindOf (nm j) = some .local) (hij : i ≠ j)
    (hc : DenC w base env fe (.type "zip")) (hf : DenE w base k env e1 f) (hg : DenE w base k env e2 g) (ht : DenPT w base env c t) (ho : CallOk env fe [e1, e2] pc) (ha : ArgsOk env e1 [e2] pc) (ha2 : ArgsOk env e2 [] pc) (hs : ∀ x, foldedSetIterable (.Call fe [e1, e2] [] pc) env x = pure x) :
    DenS w base k env (exec (.For (.Tuple [.Name x pi, .Name y pj] kk pt) (.Call fe [e1, e2] [] pc) [.If c [.Return (some (.Name xn pn)) p1] [] p2] [] p) env) (sZip f g i j t) := by
  intro A outer σ ρ H oc σ' H' s Q E W a I e q qe
  subst hx hy hxn
  unfold sZip at e
  split at e
  · rename_i xs H₁ h1
    split at e
    · rename_i ys H₂ h2
      refine wpAny_For (PyProof.Rows.Call_ (hc W I (PyProof.Rows.callWith_type1 ((lCons_ok hf (lOne hg ha2.1) ha.1) (v := [.tup xs, .tup ys]) (H' := H₂) W a I (by unfold lCons lNil; rw [h1]; dsimp only; rw [h2]) fun ρ₁ g₁ tk₁ r₁ S₁ P₁ v₁ => ?_) ha.1 ha.2)) ho) hs
      unfold AVall at v₁
      obtain ⟨v, vs, rfl, a₁, a₂⟩ := v₁
      unfold AVall at a₂
      obtain ⟨u, us, rfl, a₂, a₃⟩ := a₂
      unfold AVall at a₃; subst a₃
      unfold AVis at a₁ a₂
      obtain ⟨t1, o1, n1, X, rfl, g1, c1, d1, al1⟩ := a₁
      obtain ⟨t2, o2, n2, Y, rfl, g2, c2, d2, al2⟩ := a₂
      refine callType_new F.called_zip (by decide) (F.typeCall_zip_2 _ _) (F.newCall_zip_2 _ _) (fun obj => F.args_object_init_3 obj _ _) F.entry_zip_new
        (meets_zipT t1 t2 X Y) ⟨⟨o1, g1, c1, n1, d1⟩, ⟨o2, g2, c2, n2, d2⟩, ?_⟩
      have z1 : (zT1 g₁ t1).objs.size = g₁.objs.size + 1 := Heap.size_push ..
      have z2 : (zT2 g₁ t1 t2).objs.size = g₁.objs.size + 2 := by rw [Heap.size_push, z1]
      have z3 : (zT3 g₁ t1 t2).objs.size = g₁.objs.size + 3 := by rw [Heap.size_push, z2]
      have z4 : (zT4 g₁ t1 t2).objs.size = g₁.objs.size + 4 := by rw [Heap.size_push, z3]
      have q5 : (zT5 g₁ t1 t2).get? (zT4 g₁ t1 t2).objs.size = some _ := Heap.get?_push_size _ rfl
      have q4 : (zT5 g₁ t1 t2).get? (zT3 g₁ t1 t2).objs.size = some _ := Heap.get?_push_of_some _ (Heap.get?_push_size _ rfl)
      have q3 : (zT5 g₁ t1 t2).get? (zT2 g₁ t1 t2).objs.size = some _ := Heap.get?_push_of_some _ (Heap.get?_push_of_some _ (Heap.get?_push_size _ rfl))
      have q2 : (zT5 g₁ t1 t2).get? (zT1 g₁ t1).objs.size = some _ := Heap.get?_push_of_some _ (Heap.get?_push_of_some _ (Heap.get?_push_of_some _ (Heap.get?_push_size _ rfl)))
      have q1 : (zT5 g₁ t1 t2).get? g₁.objs.size = some _ := Heap.get?_push_of_some _ (Heap.get?_push_of_some _ (Heap.get?_push_of_some _ (Heap.get?_push_of_some _ (Heap.get?_push_size _ rfl))))
      have kp : ∀ b o, g₁.get? b = some o → (zT5 g₁ t1 t2).get? b = some o := fun c o x => Heap.get?_push_of_some _ (Heap.get?_push_of_some _ (Heap.get?_push_of_some _ (Heap.get?_push_of_some _ (Heap.get?_push_of_some _ x))))
      refine ⟨⟨_, q5, rfl⟩, ?_⟩
      show wpAny _ _ (pyIter (.ref (zT4 g₁ t1 t2).objs.size)) _ _ _
      refine wpAny_pyIter_zip q5 ?_
      rw [z2, z3, z4] at q5
      rw [z1, z2] at q3
      rw [z3] at q4
      rw [z1] at q2
      rw [z4]
      have I₁ := I.next S₁ P₁
      refine dZip_run (s := { s with heap := g₁, toks := tk₁ }) (k := k) li lj hi hj hij ht W a I₁ e al1 al2 kp ⟨q5, q3, ⟨_, _, q4⟩, ⟨_, q1, rfl, rfl⟩, ⟨_, q2, rfl, rfl⟩, ⟨o1, kp _ _ g1, c1, n1, d1⟩, ⟨o2, kp _ _ g2, c2, n2, d2⟩, Heap.lt_size g1, Heap.lt_size g2⟩ rfl fun h' tk fl S I' hfl => ?_
      exact q ρ₁ h' tk fl ((Step.x S₁).trans S I'.ownN) I' hfl
    · cases e
  · cases e
end
end Mine
end
/-! part D16 -/
section
open PySem PySem.W PyProof.Rows
set_option maxRecDepth 100000
set_option linter.unusedVariables false
namespace Mine
noncomputable abbrev ExO (t : Addr) (d : Option Addr) : Obj := { cls := .ref 72, dict := d, data := .fields #[.ref t, .none, .none, .none, .bool false, .none] }

section
variable {nm q : Str} {C N : Addr} {bs bm : List Value} {hdct : Bool} {sn : List Str} {sub : List Value} {ab : Bool} {col : Option Bool} {dd : Option Addr} {k0 k1 k2 k3 k5 : Option Value}
section
variable {M : Model} {A : Around} {E : Value → Shared → Prop} {h : Heap} {g : Array GenState} {d : Drawn} {t : Nat} {os : OsState}
theorem exc_check_new {rest : List Value} {Q : Unit → Shared → Prop} (hC : h.get? C = some (excClassObj nm q C N bs bm hdct sn sub ab col dd k0 k1 k2 k3 k5 "Exception.__new__")) (hcont : (Value.ref C :: bm).contains (.type "Exception") = true)
    (hq : Q () ⟨h, g, d, t, os⟩) : wpAny M A (checkBuiltinCall "Exception.__new__" ⟨.ref C :: rest, []⟩) Q E ⟨h, g, d, t, os⟩ := by
  have F := PySem.F.excBase_Exception
  have hstar := F.noStar
  simp only [checkBuiltinCall, F.newKind, F.newSplit, F.newRow]
  repeat (first | refine wpAny_loadPart_at hC ?_ | (refine wpAny_isSubtype_exc hC ?_; rw [hcont]) | refine wpAny_staticBase_exc hC ?_ | refine wpAny_madeBy_exc hC ?_ | simp only [bne_self_eq_false, Bool.false_eq_true, if_false] | wp_step)
  exact hq
end
section
variable {prog : Program} {w : World} {A : Around} {R : Result → Shared → Prop} {h : Heap} {g : Array GenState} {d : Drawn} {t : Nat} {os : OsState}
theorem exc_new {rest : List Value} (hC : h.get? C = some (excClassObj nm q C N bs bm hdct sn sub ab col dd k0 k1 k2 k3 k5 "Exception.__new__"))
    (hcB : (Value.ref C :: bm).contains (.type "Exception") = true) (hcA : (Value.ref C :: bm).contains (.type "AttributeError") = false) (hcN : (Value.ref C :: bm).contains (.type "NameError") = false)
    (hq : R (.ok (.ret (.ref (h.objs.size + 1)))) ⟨(h.push { cls := .type "tuple", data := .seq rest.toArray }).push
      { cls := .ref C, data := .fields #[.ref h.objs.size, .none, .none, .none, .bool false, .none] }, g, d, t, os⟩) (hrest : rest.length ≤ sizeLine := by size_fits) :
    codeAny (model prog w) A (.builtin "Exception.__new__" ⟨.ref C :: rest, []⟩) R ⟨h, g, d, t, os⟩ := by
  have F := PySem.F.excBase_Exception
  have hends := F.ends
  refine codeAny_builtinAt F.entry ?_
  unfold Builtin.«BaseException.__new__»
  refine PySem.wpAt_bind ?_
  show PySem.wpAt _ _ _ (stack >>= _) _ _ _
  refine PySem.wpAt_bind (PySem.wpAt_stack fun p below => PySem.wpAt_of_wpAny ?_)
  wp_walk
  refine PySem.wpAt_of_wpAny ?_
  rw [F.owner]
  repeat (first | with_reducible refine wpAny_madeHere_exc F.canon hC ?_ | with_reducible refine wpAny_loadPart_at hC ?_ | (with_reducible refine wpAny_isSubtype_exc hC ?_; first | rw [hcB] | rw [hcA] | rw [hcN]) | wp_step)
  show R _ _
  rw [Heap.size_push]
  exact hq
end
section
variable {prog : Program} {w : World} {A : Around} {E : Value → Shared → Prop} {h : Heap} {g : Array GenState} {d : Drawn} {t : Nat} {os : OsState}
theorem exc_type_call {K : Frag} {rest : List Value} {fI : Addr} {oI : Obj} {Q : Fin → Shared → Prop}
    (hC : h.get? C = some (excClassObj nm q C N bs bm hdct sn sub ab col dd k0 k1 k2 k3 k5 "Exception.__new__")) (X : K.In h) (hi : findIn K (.ref C) "__init__" = some (some (.ref fI)))
    (hcB : (Value.ref C :: bm).contains (.type "Exception") = true) (hcA : (Value.ref C :: bm).contains (.type "AttributeError") = false) (hcN : (Value.ref C :: bm).contains (.type "NameError") = false)
    (hfI : h.get? fI = some oI) (hfc : oI.cls = .type "function")
    (hq : ∀ h', (∀ b o, h.get? b = some o → h'.get? b = some o) → h'.get? (h.objs.size + 1) = some { cls := .ref C, data := .fields #[.ref h.objs.size, .none, .none, .none, .bool false, .none] } →
      wpAny (model prog w) A (call (.ref fI) (.ref (h.objs.size + 1) :: rest)) (fun r s' => r = .none ∧ Q (.done (.ret (.ref (h.objs.size + 1)))) s') E ⟨h', g, d, t, os⟩) (hrest : rest.length ≤ sizeLine := by size_fits) :
    wpAny (model prog w) A (Builtin.«type.__call__» ⟨.ref C :: rest, []⟩) Q E ⟨h, g, d, t, os⟩ := by
  have F := PySem.F.excBase_Exception
  repeat (first | with_reducible refine wpAny_loadPart_at hC ?_ | with_reducible refine wpAny_madeBy_exc hC ?_ | wp_step)
  refine codeAny_call_builtin_code (Code.quiet_builtin _ F.quiet) (exc_check_new hC hcB ?_)
  refine exc_new hC hcB hcA hcN ?_ hrest
  show wpAny _ _ _ _ _ _
  have kp : ∀ b o, h.get? b = some o → ((h.push { cls := .type "tuple", data := .seq rest.toArray }).push { cls := .ref C, data := .fields #[.ref h.objs.size, .none, .none, .none, .bool false, .none] }).get? b = some o :=
    fun b o e => Heap.get?_push_of_some _ (Heap.get?_push_of_some _ e)
  have hC₁ := kp _ _ hC
  have hfI₁ := kp _ _ hfI
  have hget : ((h.push { cls := .type "tuple", data := .seq rest.toArray }).push
      { cls := .ref C, data := .fields #[.ref h.objs.size, .none, .none, .none, .bool false, .none] }).get? (h.objs.size + 1) = some
      { cls := .ref C, data := .fields #[.ref h.objs.size, .none, .none, .none, .bool false, .none] } := by heap_get
  have hcC : (Value.ref C :: bm).contains (.ref C) = true := by simp
  have L1 : Looks (model prog w) ((h.push { cls := .type "tuple", data := .seq rest.toArray }).push { cls := .ref C, data := .fields #[.ref h.objs.size, .none, .none, .none, .bool false, .none] }) (typeLookup (.ref C) "__init__") (some (.ref fI)) := looks_findIn (X.keeps kp) hi
  unfold isInstance
  repeat (first | with_reducible refine wpAny_loadPart_at hget ?_ | (with_reducible refine wpAny_isSubtype_exc hC₁ ?_; rw [hcC]) | wp_step)
  show wpAny _ _ (typeLookup (.ref C) _) _ _ _
  refine L1.here ?_
  refine wpAny_holding (wpAny_bind ?_)
  unfold bindSpecial
  refine wpAny_bind (wpAny_typeOf (T := "function") ⟨_, hfI₁, hfc⟩ ?_)
  rw [if_pos (by decide)]
  refine wpAny_pure (wpAny_bind (wpAny_mono (hq _ kp hget) (fun r s' hr => ?_) fun _ _ x => x))
  obtain ⟨rfl, hQ⟩ := hr
  wp_walk
  exact hQ
theorem exc_call {K : Frag} {rest : List Value} {fI : Addr} {oI : Obj} {Q : Value → Shared → Prop}
    (hC : h.get? C = some (excClassObj nm q C N bs bm hdct sn sub ab col dd k0 k1 k2 k3 k5 "Exception.__new__")) (X : K.In h) (hi : findIn K (.ref C) "__init__" = some (some (.ref fI)))
    (hcB : (Value.ref C :: bm).contains (.type "Exception") = true) (hcA : (Value.ref C :: bm).contains (.type "AttributeError") = false) (hcN : (Value.ref C :: bm).contains (.type "NameError") = false)
    (hfI : h.get? fI = some oI) (hfc : oI.cls = .type "function")
    (hq : ∀ h', (∀ b o, h.get? b = some o → h'.get? b = some o) → h'.get? (h.objs.size + 1) = some { cls := .ref C, data := .fields #[.ref h.objs.size, .none, .none, .none, .bool false, .none] } →
      wpAny (model prog w) (A.under (.builtin "type.__call__" ⟨.ref C :: rest, []⟩)) (call (.ref fI) (.ref (h.objs.size + 1) :: rest)) (fun r s' => r = .none ∧ Q (.ref (h.objs.size + 1)) s') E ⟨h', g, d, t, os⟩) (hrest : rest.length ≤ sizeLine := by size_fits) :
    wpAny (model prog w) A (call (.ref C) rest) Q E ⟨h, g, d, t, os⟩ := by
  have f1 := tc_lookup
  have f2 := tc_bind (.ref C)
  have hT : (⟨h, g, d, t, os⟩ : Shared).TypeIs (.ref C) "type" := ⟨_, hC, rfl⟩
  refine wpAny_call (codeAny_of_tree ?_)
  show wpAny _ _ (callAny (.ref C) _) _ _ _
  repeat (any_goals (first | assumption | with_reducible refine wpAny_loadPart_at hC ?_ | wp_step))
  refine ⟨rfl, ?_⟩
  refine codeAny_call_builtin_at (Code.quiet_builtin _ (by decide +kernel)) entry_typeCall (wpAny_check_type_call_sub hC (exc_type_call (hrest := hrest) hC X hi hcB hcA hcN hfI hfc fun h' k e => ?_))
  exact hq h' k e
end
end

end Mine
end
/-! part D17 -/
section
open PySem PySem.W PyProof.Rows PySem.Builtin PySem.Builtin.ObjectAttr
set_option maxRecDepth 100000
set_option linter.unusedVariables false
namespace Mine
/-! setting an attribute of the exception -/
section
variable {w : World} {A : Around} {E : Value → Shared → Prop} {s : Shared} {K : Frag}
theorem looks_type {h : Heap} {e : Addr} {o : Obj} {c : Value} (g : h.get? e = some o) (hc : o.cls = c) : Looks (model PG w) h (typeOf (.ref e)) c := hc ▸ (Looks.ld g).andThen .now
theorem exc_osa {R : Result → Shared → Prop} {e t : Addr} {od : Option Addr} {name : Str} {tk : Tok} {v : Value} (X : K.In s.heap) (g : s.heap.get? e = some (ExO t od)) (hsub : subIn K (.ref 72) (.type "object") = some true)
    (hm : ∀ s : Shared, ∀ (A : Around) (Q : Unit → Shared → Prop) (E : Value → Shared → Prop), K.In s.heap → Q () s → wpAny (model PG w) A (do let l ← mroOf (.ref 72); refuseLoop (.ref e) "__setattr__" l) Q E s)
    (ha : findIn K (.ref 72) name = some none)
    (h : wpAny (model PG w) A.in1 (storeInOwnDict (.ref e) (.ref 72) (.str name tk) name v false)
      (fun fin s' => match fin with | .done f => R (.ok f) s' | .again c' => c'.quiet = true ∧ codeAny (model PG w) A c' R s') (fun e s' => R (.error e) s') s) :
    codeAny (model PG w) A (.call (.builtin "object.__setattr__") ⟨[.ref e, .str name tk, v], []⟩) R s := by
  have SF := PySem.F.store_object
  have LT := looks_type (w := w) g rfl
  refine codeAny_call_builtin SF.slot.plain SF.entry (@check_slot (model PG w) _ _ s "object.__setattr__" "object" "__setattr__" (.ref e) [.str name tk, v] [] _ SF.kind SF.split (LT.andThen (looks_subIn X hsub)) (SF.args (.ref e) (.str name tk) v) ?_)
  rw [osa_eq, refuse_eq]
  refine wpAny_bind (wpAny_bind (LT.here ?_))
  refine hm s _ _ _ X ?_
  refine wpAny_bind (LT.here (wpAny_bind ((looks_findIn X ha).here (wpAny_bind ?_))))
  exact wpAny_pure h
/-- the walk along the classes passes -/
theorem exc_refuse {e : Addr} {P : Params} (X : K.In s.heap) (hp : (peek K ⟨PG, w.params⟩ (do let l ← mroOf (.ref 72); refuseLoop (.ref e) "__setattr__" l)).isSome = true) {Q : Unit → Shared → Prop} (q : Q () s) :
    wpAny (model PG w) A (do let l ← mroOf (.ref 72); refuseLoop (.ref e) "__setattr__" l) Q E s := by
  obtain ⟨⟨⟩, h⟩ := Option.isSome_iff_exists.mp hp
  exact (Looks.of_peek (M := model PG w) X h).here q
theorem exc_peek (w : World) (e : Addr) : (peek (hd.heap_39 w.params) ⟨PG, w.params⟩ (do let l ← mroOf (.ref 72); refuseLoop (.ref e) "__setattr__" l)).isSome = true := by kernel_rfl
end
end Mine
end
/-! part D18 -/
section
open PySem PySem.W PyProof.Rows PySem.Builtin PySem.Builtin.ObjectAttr
set_option maxRecDepth 100000
set_option linter.unusedVariables false
namespace Mine
section
variable {w : World} {A : Around} {E : Value → Shared → Prop} {s : Shared}
theorem look72 (P : Params) : (clsIn (hd.heap_39 P) 72).any (·.hasDict) = true := by kernel_rfl
theorem sub72 (P : Params) : subIn (hd.heap_39 P) (.ref 72) (.type "object") = some true := by kernel_rfl
theorem set72 (P : Params) : findIn (hd.heap_39 P) (.ref 72) "__setattr__" = some (some (.builtin "object.__setattr__")) := by kernel_rfl

theorem in_dict {dx : Addr} {name : Str} {tk : Tok} {v : Value} {b : Bool} {es : List DictEntry} {n : Nat} {Q : PySem.Fin → Shared → Prop} (D : s.heap.get? dx = some (dictOf es n)) (hr : es.any (·.refKey) = false) (hz : (putL name (PyData.keyHash w.params name) (.str name s.toks) v es).length ≤ 1000)
    (q : ∀ h', h'.get? dx = some (dictOf (putL name (PyData.keyHash w.params name) (.str name s.toks) v es) (putN name es n)) → (∀ b o, b ≠ dx → s.heap.get? b = some o → h'.get? b = some o) → Q (.done (.ret .none)) { s with heap := h', toks := s.toks + 1 }) :
    wpAny (model PG w) A (storeInDict dx (.str name tk) name v) Q E s := by
  have ep := putName_dict name (PyData.keyHash w.params name) (.str name s.toks) v es n
  have D' : (s.heap.update dx (Obj.putName name (PyData.keyHash w.params name) (.str name s.toks) v)).get? dx = some (dictOf (putL name (PyData.keyHash w.params name) (.str name s.toks) v es) (putN name es n)) := by
    rw [← ep]
    exact Heap.get?_update_self _ D (by rw [ep]; rfl)
  refine wpAny_bind (wpAny_pure (wpAny_bind ?_))
  unfold nsSet
  refine wpAny_bind (wpAny_bind (wpAny_askSetting (wpAny_pure (wpAny_bind (wpAny_mkText (wpAny_bind (wpAny_loadPart D ?_)))))))
  dsimp only
  have c : (!es.toArray.any (·.key.isStr name) && es.toArray.any (·.refKey)) = false := by
    have z : es.toArray.any (fun x : DictEntry => x.refKey) = false := by rw [← Array.any_toList]; exact hr
    rw [z, Bool.and_false]
  rw [aRefKeyMayBeTheName_at, c]
  refine wpAny_updatePart D ?_
  refine wpAny_bind (wpAny_lookBehind D' (pastItsLine_dict (by rw [List.size_toArray, sizeLine_eq]; omega)) ?_)
  exact wpAny_pure (q _ D' fun b o nb g => (Heap.get?_update_other _ _ (Ne.symm nb)).trans g)
theorem store_new {e t : Addr} {name : Str} {tk : Tok} {v : Value} {b : Bool} {Q : PySem.Fin → Shared → Prop} (X : (hd.heap_39 w.params).In s.heap) (g : s.heap.get? e = some (ExO t none))
    (q : ∀ h' tk hsh key n, h'.get? e = some (ExO t (some s.heap.objs.size)) → h'.get? s.heap.objs.size = some (dictOf (putL name hsh (.str name key) v []) n) → (∀ b o, b ≠ e → s.heap.get? b = some o → h'.get? b = some o) → Q (.done (.ret .none)) { s with heap := h', toks := tk }) :
    wpAny (model PG w) A (storeInOwnDict (.ref e) (.ref 72) (.str name tk) name v b) Q E s := by
  obtain ⟨cd, hc, hd'⟩ := any_some (look72 w.params)
  refine wpAny_bind (wpAny_pure (wpAny_bind (wpAny_bind (wpAny_loadPart g (wpAny_bind ((looks_clsIn X hc).here ?_))))))
  rw [hd']
  refine wpAny_bind (wpAny_alloc ?_)
  have g₁ : (s.heap.push emptyDict).get? e = some (ExO t none) := Heap.get?_push_of_some _ g
  have ne : s.heap.objs.size ≠ e := Nat.ne_of_gt (Heap.lt_size g)
  refine wpAny_bind (wpAny_update g₁ (wpAny_bind (wpAny_pure (wpAny_pure ?_))))
  have g₂ : ((s.heap.push emptyDict).update e fun o => { o with dict := some s.heap.objs.size }).get? e = some (ExO t (some s.heap.objs.size)) := Heap.get?_update_self _ g₁ rfl
  have d₂ : ((s.heap.push emptyDict).update e fun o => { o with dict := some s.heap.objs.size }).get? s.heap.objs.size = some (dictOf [] 0) := (Heap.get?_update_other _ _ (Ne.symm ne)).trans (Heap.get?_push_size _ rfl)
  refine in_dict (s := { s with heap := (s.heap.push emptyDict).update e fun o => { o with dict := some s.heap.objs.size } }) (b := b) d₂ rfl (by simp [putL]) fun h' D' kp => ?_
  refine q h' _ _ _ _ (kp e _ (Ne.symm ne) g₂) D' fun b o nb gb => kp b o (fun z => ?_) ((Heap.get?_update_other _ _ (Ne.symm nb)).trans (Heap.get?_push_of_some _ gb))
  rw [z, size_none] at gb; cases gb
theorem store_old {e t dx : Addr} {name : Str} {tk : Tok} {v : Value} {b : Bool} {es : List DictEntry} {n : Nat} {Q : PySem.Fin → Shared → Prop} (X : (hd.heap_39 w.params).In s.heap) (g : s.heap.get? e = some (ExO t (some dx))) (D : s.heap.get? dx = some (dictOf es n))
    (hr : es.any (·.refKey) = false) (hz : (putL name (PyData.keyHash w.params name) (.str name s.toks) v es).length ≤ 1000)
    (q : ∀ h', h'.get? dx = some (dictOf (putL name (PyData.keyHash w.params name) (.str name s.toks) v es) (putN name es n)) → (∀ b o, b ≠ dx → s.heap.get? b = some o → h'.get? b = some o) → Q (.done (.ret .none)) { s with heap := h', toks := s.toks + 1 }) :
    wpAny (model PG w) A (storeInOwnDict (.ref e) (.ref 72) (.str name tk) name v b) Q E s := by
  obtain ⟨cd, hc, hd'⟩ := any_some (look72 w.params)
  refine wpAny_bind (wpAny_pure (wpAny_bind (wpAny_bind (wpAny_loadPart g (wpAny_bind ((looks_clsIn X hc).here ?_))))))
  rw [hd']
  exact wpAny_pure (a := some dx) (in_dict (b := b) D hr hz q)
theorem exc_set {e t : Addr} {od : Option Addr} {odo : Option Obj} {name : Str} {v : Value} {Q : Unit → Shared → Prop} (X : (hd.heap_39 w.params).In s.heap) (I : InstAt s.heap e (ExO t od) 72 odo)
    (ha : ∀ P, findIn (hd.heap_39 P) (.ref 72) name = some none)
    (h : ∀ A, wpAny (model PG w) A (storeInOwnDict (.ref e) (.ref 72) (.str name s.toks) name v false) (fun fin s' => fin = .done (.ret .none) ∧ Q () s') E { s with toks := s.toks + 1 }) :
    wpAny (model PG w) A (setAttr (.ref e) name v) Q E s := by
  have g := I.at_
  refine set_plain X I (set72 _) ?_
  refine exc_osa (s := { s with toks := s.toks + 1 }) X g (sub72 _) (fun s A Q E X q => exc_refuse (P := w.params) X (exc_peek w e) q) (ha _) ?_
  refine wpAny_mono (h _) (fun fin s' z => ?_) fun _ _ z => z
  obtain ⟨rfl, z⟩ := z
  exact z

/-! Exception.__init__ -/
theorem exc_check_init {nm q : Str} {C N : Addr} {bs bm : List Value} {hdct : Bool} {sn : List Str} {sub : List Value} {ab : Bool} {col : Option Bool} {dd : Option Addr} {k0 k1 k2 k3 k5 : Option Value} {newId : String} {M : Model} {h : Heap} {g : Array GenState} {d : Drawn} {t : Nat} {os : OsState} {e : Addr} {oe : Obj} {rest : List Value} {Q : Unit → Shared → Prop}
    (hC : h.get? C = some (excClassObj nm q C N bs bm hdct sn sub ab col dd k0 k1 k2 k3 k5 newId)) (he : h.get? e = some oe) (hcls : oe.cls = .ref C) (hcB : (Value.ref C :: bm).contains (.type "Exception") = true) (hq : Q () ⟨h, g, d, t, os⟩) :
    wpAny M A (checkBuiltinCall "Exception.__init__" ⟨.ref e :: rest, []⟩) Q E ⟨h, g, d, t, os⟩ := by
  have F := PySem.F.excBase_Exception
  have hshort := F.noStar
  simp only [checkBuiltinCall, F.initKind, F.initSplit, F.initRow]
  repeat (first | (with_reducible refine wpAny_loadPart_at he ?_; rw [hcls]) | with_reducible refine wpAny_loadPart_at hC ?_ | (with_reducible refine wpAny_isSubtype_exc hC ?_; rw [hcB]) | wp_step)
  refine wpAny_onRaise ?_
  rw [show ∀ (a b : String) (n : Nat), Bind.check ⟨.positional, "*", "Exception", .self, [⟨"args", .varPos, false⟩]⟩ a b n (List.map (fun x => x.fst) ({ pos := Value.ref e :: rest } : Args).kw) = pure () from
    fun a b n => check_star_args _ _ _ _ _ _]
  exact wpAny_pure hq
theorem exc_base_init {e t : Addr} {x : Value} {Q : Value → Shared → Prop} {nm qn : Str} {N : Addr} {bs bm : List Value} {hdct : Bool} {sn : List Str} {sub : List Value} {ab : Bool} {col : Option Bool} {dd : Option Addr} {k0 k1 k2 k3 k5 : Option Value} {newId : String}
    (hC : s.heap.get? 72 = some (excClassObj nm qn 72 N bs bm hdct sn sub ab col dd k0 k1 k2 k3 k5 newId)) (hcB : (Value.ref 72 :: bm).contains (.type "Exception") = true) (g : s.heap.get? e = some (ExO t none))
    (q : ∀ h', h'.get? e = some (ExO s.heap.objs.size none) → (∀ b o, b ≠ e → s.heap.get? b = some o → h'.get? b = some o) → Q .none { s with heap := h' }) :
    wpAny (model PG w) A (call (.builtin "Exception.__init__") [.ref e, x]) Q E s := by
  have F := PySem.F.excBase_Exception
  obtain ⟨hh, gg, dr, tt, os⟩ := s
  refine wpAny_call (codeAny_call_builtin F.init.plain F.initEntry (exc_check_init hC g rfl hcB ?_))
  unfold Builtin.«BaseException.__init__»
  refine wpAny_bind (wpAny_newTuple ?_)
  have g₁ : (hh.push { cls := .type "tuple", data := .seq #[x] }).get? e = some (ExO t none) := Heap.get?_push_of_some _ g
  unfold Builtin.BaseException.bexcPut
  refine wpAny_bind (wpAny_bind (wpAny_field g₁ rfl (x := .ref t) rfl (wpAny_bind (wpAny_setField g₁ rfl (by simp) (wpAny_letGo (wpAny_pure ?_))))))
  refine q _ (Heap.get?_update_self _ g₁ rfl) fun b o nb gb => (Heap.get?_update_other _ _ (Ne.symm nb)).trans (Heap.get?_push_of_some _ gb)
end
end Mine
end
/-! part D19 -/
section
open PySem PySem.W PyProof.Rows
set_option maxRecDepth 100000
set_option maxHeartbeats 1000000
set_option linter.unusedVariables false
namespace Mine
theorem pass {K : Frag} {a : Addr} {o : Obj} (h : K.lookup a = some o) : K.lookup a = some o := h
theorem passE {K : Frag} {a : Addr} {nm q N bs bm hdct sn sub ab col dd k0 k1 k2 k3 k5 newId} (h : K.lookup a = some (excClassObj nm q a N bs bm hdct sn sub ab col dd k0 k1 k2 k3 k5 newId)) : K.lookup a = some (excClassObj nm q a N bs bm hdct sn sub ab col dd k0 k1 k2 k3 k5 newId) := h
section
variable {w : World} {base : Heap} {A : Around} {E : Value → Shared → Prop} {s : Shared} {env : Env}
theorem name_boot {x : Str} {p : Pos} {c : Value} {Q : Value → Shared → Prop} (W : Wd w base) (st : base.StaysIn s.heap) (hk : env.scope.kind = .function) (hg : env.globals = mainGlobals) (hb' : env.builtins = builtinsNs) (hx : env.kindOf x = some .globalImplicit) (hv : ∀ P, nsIn (hd.heap_39 P) mainGlobals x = some none)
    (hb : bootBuiltins x = some c) (hn : x ≠ "__name__") (hd' : (x == ("__debug__" : Str)) = false) (q : Q c s) : wpAny (model PG w) A (eval (.Name x p) env) Q E s := by
  obtain ⟨mean, mg, mb, T⟩ := W.T
  refine Calls.Name_function_global hk hx ?_ hd'
  exact Calls.loadGlobal_builtin (mg := mg) (mb := mb) (by rw [hg]; exact T.g.keeps st) (mg_none_of W.X T.g (hv _)) (by rw [hb']; exact T.b.keeps st) ((T.builtins x hn).trans hb) q
theorem name_glob {x : Str} {p : Pos} {c : Value} {Q : Value → Shared → Prop} (W : Wd w base) (st : base.StaysIn s.heap) (hk : env.scope.kind = .function) (hg : env.globals = mainGlobals) (hx : env.kindOf x = some .globalImplicit) (hv : ∀ P, nsIn (hd.heap_39 P) mainGlobals x = some (some c))
    (hd' : (x == ("__debug__" : Str)) = false) (q : Q c s) : wpAny (model PG w) A (eval (.Name x p) env) Q E s := by
  obtain ⟨mean, mg, mb, T⟩ := W.T
  refine Calls.Name_function_global hk hx ?_ hd'
  exact Calls.loadGlobal_global (mg := mg) (by rw [hg]; exact T.g.keeps st) (mg_of W.X T.g (hv _)) q
theorem meth_type {T : String} {name : Str} {v : Value} {K : Frag} {pl : Sem Bool} {Q : Value × List Value → Shared → Prop} (X : K.In s.heap) (ht : typeOf (.type T) = pure (.type "type")) (hs : Manifest.isStub T = false)
    (e : findCls K (.type T) (.type "type") name = some (.val v)) (hh : handedIn v = true) (h : Q (v, []) { s with toks := s.toks + 1 }) : wpAny (model PG w) A (getMethod (.type T) name pl) Q E s := by
  have hstub : opaqueClassAbove (.type T) = pure none := by unfold opaqueClassAbove; dsimp only; rw [hs]; rfl
  have L0 : Looks (model PG w) s.heap (typeOf (.type T)) (.type "type") := Looks.of_pure ht
  have hg : findIn K (.type "type") "__getattribute__" = some (some (.builtin "type.__getattribute__")) := type_tga
  unfold getMethod specialOf
  refine wpAny_bind (wpAny_bind (L0.here ((looks_findIn X hg).here ?_)))
  dsimp only
  rw [if_pos canon_tga]
  refine wpAny_bind (wpAny_mono (Q := fun v => Q (v, [])) (E := E) ?_ (fun _ _ z => wpAny_pure z) fun _ _ z => z)
  have LO : Looks (model PG w) s.heap (opaqueClassAbove (.type T)) none := Looks.of_pure hstub
  refine cls_open X LO L0 hg (looks_hook X (r := none) (by rfl)) (by show subIn K _ _ = _; rfl) e
    (wpAny_pure (by show wpAny _ _ (handedOut v) _ _ _; rw [handedOut_of hh]; exact wpAny_pure h))
theorem fnd_exc (P : Params) : findCls (hd.heap_39 P) (.type "Exception") (.type "type") "__init__" = some (.val (.builtin "Exception.__init__")) := by kernel_rfl
theorem fnd_52 (P : Params) : findCls (hd.heap_39 P) (.ref 52) (.type "type") "__init__" = some (.val (.ref 49)) := by kernel_rfl
theorem rd_52 (P : Params) : readsIn (hd.heap_39 P) 52 (.type "type") = true := by kernel_rfl
theorem sp_52 (P : Params) : specialIn (hd.heap_39 P) (.ref 52) "__getattribute__" = some (some (.builtin "type.__getattribute__")) := by kernel_rfl

theorem splice2 {e1 e2 : Expr} {p : Pos} {Q : List Value → Shared → Prop} (h : wpAny (model PG w) A (eval e1 env) (fun v s₁ => wpAny (model PG w) A (eval e2 env) (fun u s₂ => Q [v, u] s₂) E s₁) E s)
    (he : starEach [e1, e2] env = (false, eval e1 env) :: starEach [e2] env) (he2 : starEach [e2] env = (false, eval e2 env) :: starEach [] env) : wpAny (model PG w) A (spliced (backTo p (starEach [e1, e2] env))) Q E s :=
  spliced_more (wpAny_mono h (fun v s₁ z => spliced_more (wpAny_mono z (fun u s₂ z => Calls.spliced_nil z) fun _ _ z => z) he2) fun _ _ z => z) he
theorem stay_but {e : Addr} {h h' : Heap} (st : base.StaysIn h) (eb : base.get? e = none) (kp : ∀ b o, b ≠ e → h.get? b = some o → h'.get? b = some o) : base.StaysIn h' := fun b o z => kp b o (fun y => by rw [y, eb] at z; cases z) (st b o z)
theorem ns_but {e L : Addr} {h h' : Heap} {m : Str → Option Value} (n : h.Ns L m) (ne : L ≠ e) (kp : ∀ b o, b ≠ e → h.get? b = some o → h'.get? b = some o) : h'.Ns L m := let ⟨oL, es, ep, g, r⟩ := n; ⟨oL, es, ep, kp _ _ ne g, r⟩
theorem exc_init49 {e t : Addr} {x : Str} {tk : Tok} {R : Result → Shared → Prop} (W : Wd w base) (st : base.StaysIn s.heap) (eb : base.get? e = none) (hroom : A.depth < recursionLimit) (g : s.heap.get? e = some (ExO t none))
    (q : ∀ h' tk' t' dx hsh key n, h'.get? e = some (ExO t' (some dx)) → h'.get? dx = some (dictOf (putL "text" hsh (.str "text" key) (.str x tk) []) n) → s.heap.get? dx = none → dx ≠ e → (∀ b o, b ≠ e → s.heap.get? b = some o → h'.get? b = some o) → R (.ok (.ret .none)) { s with heap := h', toks := tk' }) :
    codeAny (model PG w) A (.call (.ref 49) ⟨[.ref e, .str x tk], []⟩) R s := by
  have X := W.X.keeps st
  obtain ⟨mean, mg, mb, T⟩ := W.T
  have ho := pass (K := hd.heap_39 w.params) (a := 49) (by k_is)
  have hC := passE (K := hd.heap_39 w.params) (a := 72) (by k_is)
  have neL : s.heap.objs.size ≠ e := Nat.ne_of_gt (Heap.lt_size g)
  refine codeAny_call_def hroom (X _ _ ho) rfl (T.nolimit.keeps st) (codeRec_of X (by kernel_rfl)) rfl (BindsTo.of_eq (binds := [(nm 3, .ref e), (nm 4, .str x tk)]) rfl) (by decide) (locs rfl) (fun h₁ ns kp => ?_)
  have st₁ : base.StaysIn h₁ := fun b o z => kp b o (st b o z)
  have g₁ := kp _ _ g
  refine wpAny_execs_cons (wpAny_Expr_any (methodCall_KW (pl := _) (name_boot W st₁ rfl rfl rfl (by kernel_rfl) (fun _ => by kernel_rfl) PyProof.Rows.Boot.«Exception» (by decide) (by decide) ?_)))
  refine meth_type (s := { s with heap := h₁, toks := _ }) (W.X.keeps st₁) (by kernel_rfl) (by decide +kernel) (fnd_exc _) rfl ?_
  refine PyProof.Rows.callWith_builtin1 (splice2 (wpAny_Name (wpAny_loadName_local rfl (by kernel_rfl) ns (v := .ref e) (by rfl) (wpAny_Name (wpAny_loadName_local rfl (by kernel_rfl) ns (v := .str x tk) (by rfl) ?_) rfl)) rfl) rfl rfl)
  refine exc_base_init (W.X.keeps st₁ _ _ hC) (by decide) g₁ fun h₂ g₂ kp₂ => ?_
  have st₂ := stay_but st₁ eb kp₂
  have ns₂ := ns_but ns neL kp₂
  refine wpAny_execs_cons (plainObj_wpAny_Assign_Attribute (wpAny_Name (wpAny_loadName_local rfl (by kernel_rfl) ns₂ (v := .str x tk) (by rfl) (wpAny_Name (wpAny_loadName_local rfl (by kernel_rfl) ns₂ (v := .ref e) (by rfl) ?_) rfl)) rfl))
  refine exc_set (odo := none) (W.X.keeps st₂) ⟨g₂, rfl, rfl, trivial⟩ (fun P => by kernel_rfl) fun A' => ?_
  refine store_new (W.X.keeps st₂) g₂ fun h₃ tk₃ hsh key n g₃ d₃ kp₃ => ⟨rfl, wpAny_execs_nil ?_⟩
  have fr : s.heap.get? h₂.objs.size = none := by
    cases z : s.heap.get? h₂.objs.size with
    | none => rfl
    | some o =>
      by_cases y : h₂.objs.size = e
      · rw [y] at z; exact absurd (Heap.lt_size g₂) (by rw [← y]; exact Nat.lt_irrefl _)
      · exact absurd (Heap.lt_size (kp₂ _ _ y (kp _ _ z))) (Nat.lt_irrefl _)
  exact q h₃ tk₃ _ h₂.objs.size hsh key n g₃ d₃ fr (Nat.ne_of_gt (Heap.lt_size g₂)) fun b o nb z => kp₃ b o nb (kp₂ b o nb (kp b o z))

theorem exc_init69 {e t : Addr} {x : Str} {tk u : Tok} {i : Int} {R : Result → Shared → Prop} (W : Wd w base) (st : base.StaysIn s.heap) (eb : base.get? e = none) (hroom : A.depth + 1 < recursionLimit) (g : s.heap.get? e = some (ExO t none))
    (q : ∀ h' tk' t' dx es n, h'.get? e = some (ExO t' (some dx)) → h'.get? dx = some (dictOf es n) → getL (nm 2) es = some (some (.int i u)) → s.heap.get? dx = none → (∀ b o, b ≠ e → s.heap.get? b = some o → h'.get? b = some o) → R (.ok (.ret .none)) { s with heap := h', toks := tk' }) :
    codeAny (model PG w) A (.call (.ref 69) ⟨[.ref e, .str x tk, .int i u], []⟩) R s := by
  have X := W.X.keeps st
  obtain ⟨mean, mg, mb, T⟩ := W.T
  have ho := pass (K := hd.heap_39 w.params) (a := 69) (by k_is)
  have neL : s.heap.objs.size ≠ e := Nat.ne_of_gt (Heap.lt_size g)
  refine codeAny_call_def (by omega) (X _ _ ho) rfl (T.nolimit.keeps st) (codeRec_of X (by kernel_rfl)) rfl (BindsTo.of_eq (binds := [(nm 3, .ref e), (nm 4, .str x tk), (nm 2, .int i u)]) rfl) (by decide) (locs rfl) (fun h₁ ns kp => ?_)
  have st₁ : base.StaysIn h₁ := fun b o z => kp b o (st b o z)
  have g₁ := kp _ _ g
  refine wpAny_execs_cons (wpAny_Expr_any (methodCall_KW (pl := _) (name_glob (c := .ref 52) W st₁ rfl rfl (by kernel_rfl) (fun _ => by kernel_rfl) (by decide) ?_)))
  refine method_cls (s := { s with heap := h₁, toks := _ }) (W.X.keeps st₁) (sp_52 _) (cls_value (W.X.keeps st₁) (rd_52 _) (fnd_52 _) rfl ?_)
  refine callWith_K W.X (by kernel_rfl) (splice2 (wpAny_Name (wpAny_loadName_local rfl (by kernel_rfl) ns (v := .ref e) (by rfl) (wpAny_Name (wpAny_loadName_local rfl (by kernel_rfl) ns (v := .str x tk) (by rfl) ⟨W.X.keeps st₁, wpAny_call ?_⟩) rfl)) rfl) rfl rfl) rfl rfl
  refine exc_init49 W st₁ eb (by show A.depth + 1 < _; omega) g₁ fun h₂ tk₂ t₂ dx hsh key n g₂ d₂ f₂ nd kp₂ => ?_
  have st₂ := stay_but st₁ eb kp₂
  have ns₂ := ns_but ns neL kp₂
  refine wpAny_execs_cons (plainObj_wpAny_Assign_Attribute (wpAny_Name (wpAny_loadName_local rfl (by kernel_rfl) ns₂ (v := .int i u) (by rfl) (wpAny_Name (wpAny_loadName_local rfl (by kernel_rfl) ns₂ (v := .ref e) (by rfl) ?_) rfl)) rfl))
  refine exc_set (odo := some _) (W.X.keeps st₂) ⟨g₂, rfl, rfl, d₂⟩ (fun P => by kernel_rfl) fun A' => ?_
  refine store_old (W.X.keeps st₂) g₂ d₂ rfl (by simp [putL]; split <;> simp) fun h₃ d₃ kp₃ => ⟨rfl, wpAny_execs_nil ?_⟩
  refine q h₃ _ t₂ dx _ _ (kp₃ _ _ (Ne.symm nd) g₂) d₃ ?_ (none_of' kp f₂) fun b o nb z => kp₃ b o (fun y => ?_) (kp₂ b o nb (kp b o z))
  · kernel_rfl
  · have := kp b o z
    rw [y, f₂] at this; cases this
end
end Mine
end
/-! part D20 -/
section
open PySem PySem.W PyProof.Rows
set_option maxRecDepth 100000
set_option maxHeartbeats 1000000
set_option linter.unusedVariables false
namespace Mine
section
variable {nm q : Str} {C N : Addr} {bs bm : List Value} {hdct : Bool} {sn : List Str} {sub : List Value} {ab : Bool} {col : Option Bool} {dd : Option Addr} {k0 k1 k2 k3 k5 : Option Value} {newId : String}
theorem raise_made {M : Model} {A : Around} {E : Value → Shared → Prop} {env : Env} {s : Shared} {x : Sem Value} {Q : Flow → Shared → Prop} {K : Frag} (hK : K.lookup 72 = some (excClassObj nm q 72 N bs bm hdct sn sub ab col dd k0 k1 k2 k3 k5 newId)) (hbase : bm.contains (.type "BaseException") = true) (hh : A.handled = none)
    (h : wpAny M A x (fun v s₁ => ∃ e t od, v = .ref e ∧ K.In s₁.heap ∧ s₁.heap.get? e = some (ExO t od) ∧ E (.ref e) s₁) E s) :
    wpAny M A (raiseStmt env (some x) none) Q E s := by
  have hcB : (Value.ref 72 :: bm).contains (.type "BaseException") = true := by rw [List.contains_cons, hbase, Bool.or_true]
  unfold raiseStmt
  refine wpAny_bind (wpAny_mono h (fun v s₁ h₁ => ?_) fun _ _ x => x)
  obtain ⟨e, t, od, rfl, hC, he, hE⟩ := h₁
  replace hC := hC _ _ hK
  obtain ⟨hp, g, d, tk, os⟩ := s₁
  repeat (first | with_reducible refine wpAny_loadPart_at he ?_ | with_reducible refine wpAny_loadPart_at hC ?_ | (with_reducible refine wpAny_isSubtype_exc hC ?_; rw [hcB]) | wp_step)
  exact wpAny_raiseNew_none hh hE
end
section
variable {w : World} {base : Heap} {k : Nat} {env : Env}
noncomputable def sRaise (f : ED) : SD := fun σ H => match f σ H with | some (.int q, H₁) => some (.exc q, σ, H₁) | _ => Option.none
theorem sRaise_ok {fe e : Expr} {x : Str} {kd : Nat} {p pc pp : Pos} {f : ED} (hc : DenC w base env fe (.ref 72)) (hf : DenE w base (k + 2) env e f) (ho : CallOk env fe [.Constant (.str x) kd pp, e] pc) (ha : ArgsOk env (.Constant (.str x) kd pp) [e] pc) (ha2 : ArgsOk env e [] pc) :
    DenS w base (k + 2) env (exec (.Raise (some (.Call fe [.Constant (.str x) kd pp, e] [] pc)) none p) env) (sRaise f) := by
  intro A outer σ ρ H oc σ' H' s Q E W a I e q qe
  unfold sRaise at e
  split at e
  · rename_i i H₁ h1
    cases e
    have hC := passE (K := hd.heap_39 w.params) (a := 72) (by k_is)
    have ho69 := pass (K := hd.heap_39 w.params) (a := 69) (by k_is)
    rw [arm_exec_Raise]
    refine wpAny_bind (wpAny_standAt ?_)
    show wpAny _ _ (raiseStmt env (some (do let v ← eval (.Call fe [.Constant (.str x) kd pp, e] [] pc) env; standAt p; pure v)) none) _ _ _
    refine raise_made hC (by decide) a.hh (wpAny_bind ?_)
    refine PyProof.Rows.Call_ (hc W I (callWith_K W.X (by kernel_rfl) (splice2 (Calls.Constant_str (hf (s := { s with toks := s.toks + 1 }) W a I h1 fun ρ₁ g₁ tk₁ r₁ S₁ P₁ v₁ => ?_)) ha.1 ha2.1) ha.1 ha.2)) ho
    have X₁ := W.X.keeps P₁.stay
    refine ⟨X₁, ?_⟩
    unfold AVis at v₁
    obtain ⟨u, rfl⟩ := v₁
    have I₁ := I.next S₁ P₁
    have sb : base.get? (g₁.objs.size + 1) = none := Heap.get?_none_of_le (Nat.le_succ_of_le I₁.fok.big)
    refine exc_call (fI := 69) (X₁ _ _ hC) X₁ (by kernel_rfl) (by decide) (by decide) (by decide) (X₁ _ _ ho69) rfl fun h' kp g => wpAny_call ?_
    refine exc_init69 W (fun b o z => kp b o (P₁.stay b o z)) sb (by show A.depth + 1 + 1 < recursionLimit; have := a.dp; omega) g fun h₂ tk₂ t' dx es n g₂ d₂ hl f₂ kp₂ => ⟨rfl, ?_⟩
    have kpA : ∀ b o, g₁.get? b = some o → h₂.get? b = some o := fun b o z => kp₂ b o (fun y => by rw [y, Heap.get?_none_of_le (Nat.le_succ _)] at z; cases z) (kp b o z)
    refine wpAny_bind (wpAny_standAt (wpAny_pure ⟨_, t', some dx, rfl, X₁.keeps kpA, g₂, ?_⟩))
    have dm : ∀ b, h₂.get? b = none → s.heap.get? b = none := fun b z => Step.dom S₁ P₁ b (none_of' kpA z)
    refine qe i h₂ tk₂ _ false rfl ⟨fun b ob z nm no => ?_, fun b ob z => kpA b ob (P₁.stay b ob z), ?_⟩ ⟨?_, dm, _, _, dx, es, n, u, g₂, rfl, rfl, rfl, by simp, ?_, d₂, hl, ?_⟩
    · have := kpA b ob (S₁.kept b ob z nm)
      exact ⟨⟨ob.slots, this⟩, fun _ => this⟩
    · exact funFrames_kept I₁.fok.frs fun e m L f o z => kpA L o z
    · exact Step.dom S₁ P₁ _ (Heap.get?_none_of_le (Nat.le_succ _))
    · exact Step.dom S₁ P₁ _ (none_of' kp f₂)
    · rw [if_neg (by decide)]
      exact .inl (by simp)
  · cases e
end
end Mine
end
/-! part L1 -/
section
open PySem PySem.W PyProof.Rows
set_option maxRecDepth 100000
set_option maxHeartbeats 1000000
set_option linter.unusedVariables false
namespace Mine
section
variable {w : World} {base : Heap} {k : Nat} {env : Env} {E : Value → Shared → Prop}
theorem ints_back {h : Heap} {ρ : List Addr} : ∀ {ws : List Value}, (∀ v ∈ ws, ∃ i t, v = .int i t) → ∃ ns : List Int, AVall h ρ (ns.map .int) ws
  | [], _ => ⟨[], .nil⟩
  | v :: ws, hh => by
    obtain ⟨i, t, rfl⟩ := hh v (.head _)
    obtain ⟨ns, x⟩ := ints_back (h := h) (ρ := ρ) (ws := ws) fun u m => hh u (.tail _ m)
    exact ⟨i :: ns, .cons (by unfold AVis; exact ⟨t, rfl⟩) x⟩
theorem intsAre_mem : ∀ {vs : List Value} {ns : List Int}, IntsAre vs ns → ∀ v ∈ vs, ∃ i t, v = .int i t
  | _, _, .nil, v, m => nomatch m
  | _, _, .cons i t r, v, m => by
    cases m with
    | head => exact ⟨i, t, rfl⟩
    | tail _ m => exact intsAre_mem r v m
theorem pick_mem {items : Array Value} {lo hi st : Option Int} : ∀ v ∈ (slicePick items lo hi st).toList, v ∈ items.toList := fun v m => by
  unfold slicePick at m
  simp only [List.mem_filterMap] at m
  obtain ⟨i, _, e⟩ := m
  exact Array.mem_toList_iff.mpr (Array.mem_of_getElem? e)
theorem merged2 (a b : Value) : merged ([] : List (Str × Value)) [(nm 63, a), (nm 85, b)] = [(nm 63, a), (nm 85, b)] := by kernel_rfl
theorem law_start {A : Around} {fs : List Env} {l : Addr} {vs : List Value} {ns : List Int} {m : Str → Option Value} {s : Shared} {Q : Flow → Shared → Prop} {p p1 p2 p3 p4 p5 p6 p7 p8 p9 : Pos} {k1 k2 k3 k4 : Nat}
    (W : Wd w base) (a : Ax A fs k) (I : Inv w base env fs [] [] [] s.heap) (hns : s.heap.Ns env.locals m) (hm : m (nm 83) = some (.ref l)) (hl : s.heap.IsList l vs.toArray) (hi : IntsAre vs ns) (hlen : vs.length ≤ 100) (hs : env.kindOf (nm 83) = some .local) (hlo : NmOk env 62)
    (hsw : swapsWith (.Dict [some (.Constant (.str "cells") k1 p1), some (.Constant (.str "gone") k2 p2)] [.Subscript (.Name (nm 83) p3) (.Slice none (some (.Constant (.int 24) k3 p4)) none p5) p6, .Constant (.int 0) k4 p7] p8) (some (.Name (nm 62) p9)) p.line env = pure false)
    (q : ∀ (cells : List Int) ρ' h' tk, cells.length ≤ 100 → StepX (own env) [] s.heap ρ' h' → Inv w base env fs [(62, .ref 1)] ρ' [.list (cells.map .int), .map [(63, .ref 0), (85, .int 0)]] h' → Q .next { s with heap := h', toks := tk }) :
    wpAny (model PG w) A (exec (.Assign [.Name (nm 62) p9] (.Dict [some (.Constant (.str "cells") k1 p1), some (.Constant (.str "gone") k2 p2)] [.Subscript (.Name (nm 83) p3) (.Slice none (some (.Constant (.int 24) k3 p4)) none p5) p6, .Constant (.int 0) k4 p7] p8) p) env) Q E s := by
  refine wpAny_Assign_Name (wpAny_Dict_walk (knd := PySem.strKind PG w) rfl rfl (by simp) (by show 2 ≤ 15; decide) ?_) hsw
  have kp₁ : ∀ b o, s.heap.get? b = some o → (s.heap.push { cls := .type "dict", data := .dict #[] }).get? b = some o := fun b o g => Heap.get?_push_of_some _ g
  have hl₁ : (s.heap.push { cls := .type "dict", data := .dict #[] }).IsList l vs.toArray := let ⟨o, g, r⟩ := hl; ⟨o, kp₁ _ _ g, r⟩
  have ns₁ : (s.heap.push { cls := .type "dict", data := .dict #[] }).Ns env.locals m := let ⟨oL, es, ep, g, r⟩ := hns; ⟨oL, es, ep, kp₁ _ _ g, r⟩
  refine pairTrees_cons_walk (Calls.Constant_str (wpAny_Subscript_list_slice (wpAny_Name (wpAny_loadName_local I.envk hs ns₁ hm ?_) (nm_dbg (by decide)))))
  rw [evalPart_none, evalPart_some]
  refine wpAny_pure (wpAny_Constant_int ⟨l, vs.toArray, none, some 24, rfl, hl₁, ?_, .none, .int _ _, ?_⟩)
  · rw [sizeLine_eq, List.size_toArray]; omega
  refine pairTrees_cons_walk (Calls.Constant_str (wpAny_Constant_int ?_))
  refine pairTrees_nil_walk ?_
  dsimp only
  generalize hsl : ({ cls := .type "slice", data := .fields #[Value.none, .int 24 _, .none] } : Obj) = so
  have z1 : (s.heap.push { cls := .type "dict", data := .dict #[] }).objs.size = s.heap.objs.size + 1 := Heap.size_push ..
  have z2 : ((s.heap.push { cls := .type "dict", data := .dict #[] }).push so).objs.size = s.heap.objs.size + 2 := by rw [Heap.size_push, z1]
  generalize hlo' : ({ cls := .type "list", data := .seq (slicePick vs.toArray none (some 24) none) } : Obj) = lo
  have gl : (((s.heap.push { cls := .type "dict", data := .dict #[] }).push so).push lo).get? (s.heap.objs.size + 2) = some lo := by
    rw [← z2]; exact Heap.get?_push_size _ (by rw [← hlo']; rfl)
  have kp₃ : ∀ b o, s.heap.get? b = some o → (((s.heap.push { cls := .type "dict", data := .dict #[] }).push so).push lo).get? b = some o := fun b o g => Heap.get?_push_of_some _ (Heap.get?_push_of_some _ (kp₁ b o g))
  rw [z1]
  refine ⟨[(nm 63, .ref (s.heap.objs.size + 2)), (nm 85, .int 0 _)], ⟨rfl, rfl, rfl, rfl, trivial⟩, ((Heap.DictOf.new _).push _).push _, fun h' hd sb => ?_⟩
  rw [merged2] at hd
  have kp₄ : ∀ b o, b ≠ s.heap.objs.size → (((s.heap.push { cls := .type "dict", data := .dict #[] }).push so).push lo).get? b = some o → h'.get? b = some o := sb_ext sb
  have kp : ∀ b o, s.heap.get? b = some o → h'.get? b = some o := fun b o g => kp₄ b o (Nat.ne_of_lt (Heap.lt_size g)) (kp₃ b o g)
  have gl' := kp₄ _ _ (nei (.inr (Nat.lt_add_of_pos_right (by decide)))) gl
  have big := I.fok.big
  obtain ⟨cells, hc⟩ := ints_back (h := h') (ρ := [s.heap.objs.size + 2, s.heap.objs.size]) (ws := (slicePick vs.toArray none (some 24) none).toList) fun v mv => intsAre_mem hi v (by simpa using pick_mem v mv)
  have lc : cells.length ≤ 100 := by
    have := hc.len
    have := slicePick_size_le vs.toArray none (some 24) none
    simp at *
    omega
  have S : Step [] s.heap [s.heap.objs.size + 2, s.heap.objs.size] h' := ⟨⟨_, rfl⟩, fun b o g _ => kp b o g, fun b mb _ => Heap.get?_none_of_le (by
    rcases List.mem_cons.mp mb with rfl | mb
    · exact Nat.le_add_right _ _
    · rw [List.mem_singleton.mp mb]; exact Nat.le_refl _)⟩
  have P : HeapOk w base [s.heap.objs.size + 2, s.heap.objs.size] [.list (cells.map .int), .map [(63, .ref 0), (85, .int 0)]] h' := by
    refine ⟨rfl, ?_, fun b mb => ?_, fun b o g => kp b o (I.hp.stay b o g), fun i b ao ei eh => ?_⟩
    · simp
    · rcases List.mem_cons.mp mb with rfl | mb
      · exact Nat.le_trans big (Nat.le_add_right _ _)
      · rw [List.mem_singleton.mp mb]; exact big
    · match i with
      | 0 =>
        cases ei; cases eh
        exact ⟨_, ⟨_, by rw [gl', ← hlo']⟩, hc⟩
      | 1 =>
        cases ei; cases eh
        refine ⟨_, hd, by show 2 ≤ 100; decide, fun i v e => ?_⟩
        unfold lk at e
        split at e
        · rename_i z; subst z; cases e
          exact ⟨by decide, .ref (s.heap.objs.size + 2), by kernel_rfl, by unfold AVis; exact ⟨_, rfl, rfl⟩⟩
        · unfold lk at e
          split at e
          · rename_i z; subst z; cases e
            exact ⟨by decide, .int 0 (s.toks + 1 + 1 + 1), by kernel_rfl, by unfold AVis; exact ⟨_, rfl⟩⟩
          · cases e
      | n + 2 => cases ei
  refine storeVar (s := { s with heap := h', toks := _ }) (v := .ref 1) (I.next S P) hlo (by decide) (by unfold AVis; exact ⟨s.heap.objs.size, rfl, rfl⟩) fun h₅ tk₅ S₅ I₅ => ?_
  exact q cells _ h₅ tk₅ lc ((Step.x S).trans S₅ I₅.ownN) I₅
end
end Mine
end
/-! part L2 -/
section
open PySem PySem.W PyProof.Rows PySem.Builtin PySem.Builtin.ObjectAttr
set_option maxRecDepth 100000
set_option maxHeartbeats 1000000
set_option linter.unusedVariables false
namespace Mine
section
variable {w : World} {A : Around} {E : Value → Shared → Prop} {s : Shared}
theorem ga72 (P : Params) : findIn (hd.heap_39 P) (.ref 72) "__getattribute__" = some (some (.builtin "BaseException.__getattribute__")) := by kernel_rfl
theorem gh72 (P : Params) : findIn (hd.heap_39 P) (.ref 72) "__getattr__" = some none := by kernel_rfl
theorem gb72 (P : Params) : subIn (hd.heap_39 P) (.ref 72) (.type "BaseException") = some true := by kernel_rfl
theorem sq72 (P : Params) : findIn (hd.heap_39 P) (.ref 72) (nm 2) = some none := by kernel_rfl
theorem exc_get {e dx : Addr} {oe : Obj} {es : List DictEntry} {n : Nat} {v : Value} {expr : Bool} {Q : Value → Shared → Prop} (X : (hd.heap_39 w.params).In s.heap) (I : InstAt s.heap e oe 72 (some (dictOf es n))) (hl : getL (nm 2) es = some (some v)) (hh : handedIn v = true)
    (q : Q v { s with toks := s.toks + 1 }) : wpAny (model PG w) A (getAttr (.ref e) (nm 2) expr) Q E s := by
  have LT := I.type (M := model PG w)
  refine wpAny_bind (wpAny_mkText (wpAny_holding (wpAny_bind (LT _ _ _ _ (fun _ _ e => e) (wpAny_bind (looks_findIn X (ga72 _) _ _ _ _ (fun _ _ e => e) ?_))))))
  dsimp only
  rw [show (onTheHeap (Value.ref 72) && Value.builtin "BaseException.__getattribute__" == Value.builtin "object.__getattribute__") = false from by rw [show (Value.builtin "BaseException.__getattribute__" == Value.builtin "object.__getattribute__") = false from by decide +kernel, Bool.and_false], if_neg (by decide)]
  refine wpAny_bind (looks_findIn X (gh72 _) _ _ _ _ (fun _ _ e => e) (wpAny_bind (wpAny_attempt (wpAny_holding ?_))))
  unfold callGetattribute
  rw [show (expr && onTheHeap (Value.builtin "BaseException.__getattribute__")) = false from Bool.and_false _, if_neg (by decide)]
  unfold boundAndCalled
  rw [PySem.F.attr_Exception.ga.bind]
  refine wpAny_bind (wpAny_pure ?_)
  show wpAny _ _ (call (.builtin "BaseException.__getattribute__") [.ref e, .str (nm 2) s.toks]) _ _ _
  refine wpAny_call (codeAny_call_builtin PySem.F.attr_Exception.ga.plain PySem.F.entry_bexc_ga ?_)
  refine @check_slot (model PG w) _ _ { s with toks := s.toks + 1 } "BaseException.__getattribute__" "BaseException" "__getattribute__" (.ref e) [.str (nm 2) s.toks] [] _ (by decide +kernel) (by decide +kernel) (LT.andThen (looks_subIn X (gb72 _))) (PySem.F.args_bexc_ga _ _) ?_
  have L1 := looks_find (M := model PG w) X I (findObj_own (name := nm 2) (v := v) (by kernel_rfl) (sq72 _) rfl hl)
  refine wpAny_bind (wpAny_pure (wpAny_bind (wpAny_pure (wpAny_bind (LT _ _ _ _ (fun _ _ e => e) (wpAny_bind (L1 _ _ _ _ (fun _ _ e => e) ?_)))))))
  refine wpAny_pure ?_
  show wpAny _ _ (handedOut v) _ _ _
  rw [handedOut_of hh]; exact wpAny_pure q
end
end Mine
end
/-! part L3 -/
section
open PySem PySem.W PyProof.Rows
set_option maxRecDepth 100000
set_option maxHeartbeats 1000000
set_option linter.unusedVariables false
namespace Mine
section
variable {nm q : Str} {C N : Addr} {bs bm : List Value} {hdct : Bool} {sn : List Str} {sub : List Value} {ab : Bool} {col : Option Bool} {dd : Option Addr} {k0 k1 k2 k3 k5 : Option Value} {newId : String}
theorem handle72 {prog : Program} {w : World} {A : Around} {E : Value → Shared → Prop} {env : Env} {s : Shared} {K : Frag} {e : Addr} {t : Expr} {n : Str} {b₀ : Stmt} {suite : List Stmt} {pos : Pos} {rest : List ExceptHandler} {Q : Flow → Shared → Prop}
    (hK : K.lookup 72 = some (excClassObj nm q 72 N bs bm hdct sn sub ab col dd k0 k1 k2 k3 k5 newId)) (hbase : bm.contains (.type "BaseException") = true)
    (h : wpAny (model prog w) (A.mark (some (.ref e))) (eval t env) (fun c s₁ => c = .ref 72 ∧ K.In s₁.heap ∧ (∃ oe, s₁.heap.get? e = some oe ∧ oe.cls = .ref 72) ∧
      wpAny (model prog w) (A.mark (some (.ref e))) (setFlight (.ref e) none) (fun _ s₂ =>
          wpAny (model prog w) (A.mark (some (.ref e))) (storeName env n (.ref e)) (fun _ s₃ =>
            wpAny (model prog w) (A.mark (some (.ref e))) (execs (b₀ :: suite) env)
              (fun f s₄ => wpAny (model prog w) A (do bindName env n .none; unbindBehindTheSuite env n pos) (fun _ s₅ => Q f s₅) E s₄)
              (fun x s₃ => wpAny (model prog w) (A.mark (some (.ref e))) (noteFrame x env) (fun _ s₃' =>
            wpAny (model prog w) (A.mark (some (.ref e))) (do bindName env n .none; unbindBehindTheSuite env n pos)
              (fun _ s₄ => wpAny (model prog w) (A.mark (some (.ref e))) (passOn "try.except-as" x env : Sem Flow) (fun _ _ => False) (notedBy (model prog w) (A.mark (some (.ref e))) env (cameBackBy (model prog w) A env E)) s₄)
              (fun y s₄ => wpAny (model prog w) (A.mark (some (.ref e))) (setFlight x none) (fun _ s₅ => (notedBy (model prog w) (A.mark (some (.ref e))) env (cameBackBy (model prog w) A env E)) y s₅) (notedBy (model prog w) (A.mark (some (.ref e))) env (cameBackBy (model prog w) A env E)) s₄) s₃') (notedBy (model prog w) (A.mark (some (.ref e))) env (cameBackBy (model prog w) A env E)) s₃) s₃) (notedBy (model prog w) (A.mark (some (.ref e))) env (cameBackBy (model prog w) A env E)) s₂) (notedBy (model prog w) (A.mark (some (.ref e))) env (cameBackBy (model prog w) A env E)) s₁) (notedBy (model prog w) (A.mark (some (.ref e))) env (cameBackBy (model prog w) A env E)) s) :
    wpAny (model prog w) A (handleBy (.ref e) env (.ExceptHandler (some t) (some n) (b₀ :: suite) pos :: rest)) Q E s := by
  refine wpAny_handleBy_cons (codeAny_handlers_test (wpAny_mono h (fun c s₁ h₁ => ?_) fun _ _ y => y)) (by intro q; cases q)
  obtain ⟨rfl, O, ⟨oe, he, hcls⟩, hk⟩ := h₁
  have hC := O _ _ hK
  obtain ⟨hh, g, d, tk, os⟩ := s₁
  exact wpAny_excMatches_sub_self hC he hcls hbase (codeAny_handlers_suite_as hk)
end
section
variable {w : World} {base : Heap} {k : Nat} {env : Env} {E : Value → Shared → Prop}
theorem ns_slots {fs : List Env} {h₀ h h' : Heap} {L : Addr} {m : Str → Option Value} (kk : KeptE fs h₀ h h') (n0 : h₀.get? L ≠ none) (ns : h.Ns L m) : h'.Ns L m := by
  obtain ⟨oL, es, ep, g, d, r⟩ := ns
  obtain ⟨⟨sl, g'⟩, _⟩ := kk L oL n0 g
  exact ⟨_, es, ep, g', d, r⟩
theorem stay_kept {fs : List Env} {ρ : List Addr} {h₀ h h' : Heap} (kk : KeptE fs h₀ h h') (F : Fok base fs ρ h₀) (s0 : base.StaysIn h₀) (st : base.StaysIn h) : base.StaysIn h' := fun b o g =>
  (kk b o (by rw [s0 b o g]; simp) (st b o g)).2 fun f m z => absurd (Heap.lt_size g) (Nat.not_lt.mpr (F.frB f m b z))

noncomputable def BlameIs : Out → AV → Prop
  | .val _, dv => dv = .none
  | .exc q, dv => dv = .int q
theorem law_end {A : Around} {outer : List Env} {σ : AS} {ρ : List Addr} {H H' : AH} {o : Out} {dv : AV} {s : Shared} {Q : Flow → Shared → Prop} {x : Expr} {f : XD} {p1 p2 p3 p4 p5 p6 p7 p8 p9 q1 q2 q3 q4 q5 q6 q7 : Pos} {c1 c2 : Nat}
    (W : Wd w base) (a : Ax A (env :: outer) k) (I : Inv w base env (env :: outer) σ ρ H s.heap) (hf : env.frame = some env.locals) (hx : DenX w base k env x f) (e : f σ H = some (o, H')) (hdv : lk 69 σ = some dv) (ho : BlameIs o dv)
    (hi : interactive env = false) (hs : swapsWith x none p1.line env = pure false) (hk69 : env.kindOf (nm 69) = some .local) (hk84 : env.kindOf (nm 84) = some .local) (hkB : env.kindOf "BadPosition" = some .globalImplicit)
    (hab : attributeBase (.Name (nm 84) p6) (nm 2) env (eval (.Name (nm 84) p6) env) = eval (.Name (nm 84) p6) env)
    (q : ∀ h' tk, base.StaysIn h' → Q (.ret (.bool true)) { s with heap := h', toks := tk }) :
    wpAny (model PG w) A (execs [.Try [.Expr x p1] [.ExceptHandler (some (.Name "BadPosition" p2)) (some (nm 84)) [.Return (some (.BoolOp .And [.Compare (.Name (nm 69) p3) [.IsNot] [.Constant .none c1 p4] p5, .Compare (.Attribute (.Name (nm 84) p6) (nm 2) p7) [.Eq] [.Name (nm 69) p8] p9] q1)) q2] q3] [] [] q4,
      .Return (some (.Compare (.Name (nm 69) q5) [.Is] [.Constant .none c2 q6] q7)) q4] env) Q E s := by
  refine wpAny_execs_cons (wpAny_Try_except (wpAny_execs_cons (wpAny_Expr_any (hx W a I e (fun v ρ₁ h₁ tk r z S P av => ?_) fun i h₁ tk ea tr z SE X => ?_) hi hs)))
  · subst z
    have ho : dv = .none := ho
    subst ho
    refine wpAny_execs_nil (wpAny_execs_nil (wpAny_execs_cons (wpAny_Return_some ?_)))
    refine wpAny_Compare1 (wpAny_Name (loadVar (s := { s with heap := h₁, toks := tk }) (I.next S P) hdv fun r av => ?_) (nm_dbg (by decide))) rfl
    unfold AVis at av
    subst av
    exact wpAny_Constant_none (wpAny_is_plain rfl (q h₁ tk P.stay))
  · subst z
    have ho : dv = .int i := ho
    subst ho
    have hC := passE (K := hd.heap_39 w.params) (a := 72) (by k_is)
    have th : ThereF (env :: outer) s.heap := fun g mg L hL => by
      obtain ⟨o', g', _⟩ := funFrames_get I.fok.frs g mg L hL
      rw [g']; simp
    obtain ⟨m, ns, hv⟩ := I.vars
    have nL : s.heap.get? env.locals ≠ none := I.ownThere _ (.inl rfl)
    have ns₁ : h₁.Ns env.locals m := by
      obtain ⟨oL, es, ep, g, d, r⟩ := ns
      obtain ⟨⟨sl, g'⟩, _⟩ := SE.kept _ _ g I.locF id
      exact ⟨_, es, ep, g', d, r⟩
    obtain ⟨lt, r, av, u⟩ := hv 69 _ hdv
    unfold AVis at av
    obtain ⟨t, rfl⟩ := av
    have m69 : m (nm 69) = some (.int i t) := by
      rcases u with ⟨_, u⟩ | ⟨u1, _⟩
      · exact u
      · rw [hk69] at u1; rcases u1 with u1 | u1 <;> cases u1
    refine note_ok (s := { s with heap := h₁, toks := tk }) a.fr SE.frs th hf X fun h₂ X₂ k₂ f₂ => ?_
    have st₂ := stay_kept k₂ I.fok I.hp.stay SE.stay
    have ns₂ := ns_slots k₂ nL ns₁
    refine flight_ok (s := { s with heap := h₂, toks := tk }) f₂ X₂ fun h₃ X₃ k₃ f₃ => ?_
    have st₃ := stay_kept k₃ I.fok I.hp.stay st₂
    have ns₃ := ns_slots k₃ nL ns₂
    refine handle72 hC (by decide) (name_glob (c := .ref 72) W st₃ I.envk I.envg hkB (fun P => by kernel_rfl) (by decide) ⟨rfl, W.X.keeps st₃, ?_, ?_⟩)
    · obtain ⟨_, _, oe, vs, dx, es, n, t', b1, b2, _⟩ := X₃
      exact ⟨oe, b1, b2⟩
    refine flight_ok (s := { s with heap := h₃, toks := tk }) f₃ X₃ fun h₄ X₄ k₄ f₄ => ?_
    have st₄ := stay_kept k₄ I.fok I.hp.stay st₃
    have ns₄ := ns_slots k₄ nL ns₃
    have pp : (env.scope.kind == .class || (env.scope.kind == .module && env.locals != env.globals)) = false := by rw [I.envk]; rfl
    refine wpAny_storeName_local hk84 ns₄ (fun h₅ ns₅ sb₅ => ?_) pp
    have kp₅ := sb_ext sb₅
    have lB : base.get? env.locals = none := Heap.get?_none_of_le I.locB
    have st₅ : base.StaysIn h₅ := stay_but st₄ lB kp₅
    obtain ⟨en, _, oe, vs, dx, es, n, t', b1, b2, b3, b4, b5, b6, b7, b8, _⟩ := X₄
    have nee : ea ≠ env.locals := fun z => nL (z ▸ en)
    have ned : dx ≠ env.locals := fun z => nL (z ▸ b6)
    refine wpAny_execs_cons (wpAny_Return_some (BoolOp_and ?_))
    refine wpAny_Compare1 (wpAny_Name (wpAny_loadName_local I.envk hk69 ns₅ (v := .int i t) (by rw [if_neg (fun z => absurd (nm_inj (by decide) (by decide) z) (by decide))]; exact m69) ?_) (nm_dbg (by decide))) rfl
    refine wpAny_Constant_none (wpAny_isNot_plain rfl (wpAny_truthy_bool ?_))
    rw [if_pos (show (!(Value.int i t == Value.none)) = true from rfl)]
    refine BoolOp_one (wpAny_Compare1 ?_ rfl)
    refine Attribute_any_ (wpAny_Name (wpAny_loadName_local I.envk hk84 ns₅ (v := .ref ea) (by rw [if_pos rfl]) ?_) (nm_dbg (by decide))) (by rw [arm_eval_Attribute, hab])
    have I5 : InstAt h₅ ea oe 72 (some (dictOf es n)) := by
      refine ⟨kp₅ _ _ nee b1, b2, ?_, ?_⟩
      · obtain ⟨oc, od, oda, osl⟩ := oe
        simp only at b4
        subst b4
        rfl
      · rw [b3]; exact kp₅ _ _ ned b7
    refine exc_get (dx := dx) (s := { s with heap := h₅, toks := _ }) (W.X.keeps st₅) I5 b8 rfl ?_
    refine wpAny_Name (wpAny_loadName_local I.envk hk69 ns₅ (v := .int i t) (by rw [if_neg (fun z => absurd (nm_inj (by decide) (by decide) z) (by decide))]; exact m69) ?_) (nm_dbg (by decide))
    refine cEq_ok ?_
    dsimp only
    rw [show decide (i = i) = true from by simp]
    refine wpAny_bind (wpAny_bindName (wpAny_storeName_local hk84 ns₅ (fun h₆ ns₆ sb₆ => ?_) pp))
    have st₆ : base.StaysIn h₆ := stay_but st₅ lB (sb_ext sb₆)
    refine wpAny_onRaise (wpAny_unbindName_local hk84 ns₆ (v := .none) (by rw [if_pos rfl]) pp fun h₇ u ns₇ sb₇ => ?_)
    exact q h₇ _ (stay_but st₆ lB (sb_ext sb₇))
end
end Mine
end
/-! part L4 -/
section
open PySem PySem.W PyProof.Rows
set_option maxRecDepth 100000
set_option maxHeartbeats 8000000
namespace Mine
theorem byLen1 {α : Type} {P : List α → Prop} (q : ∀ a, P [a]) : ∀ rs : List α, rs.length = 1 → P rs
  | [a], _ => q a
theorem byLen2 {α : Type} {P : List α → Prop} (q : ∀ a b, P [a, b]) : ∀ rs : List α, rs.length = 2 → P rs
  | [a, b], _ => q a b
theorem byLen3 {α : Type} {P : List α → Prop} (q : ∀ a b c, P [a, b, c]) : ∀ rs : List α, rs.length = 3 → P rs
  | [a, b, c], _ => q a b c
theorem byLen4 {α : Type} {P : List α → Prop} (q : ∀ a b c d, P [a, b, c, d]) : ∀ rs : List α, rs.length = 4 → P rs
  | [a, b, c, d], _ => q a b c d
theorem byLen5 {α : Type} {P : List α → Prop} (q : ∀ a b c d e, P [a, b, c, d, e]) : ∀ rs : List α, rs.length = 5 → P rs
  | [a, b, c, d, e], _ => q a b c d e
noncomputable abbrev kEq (x y : Int) : Bool := decide (x = y)
noncomputable abbrev kNe (x y : Int) : Bool := !decide (x = y)
noncomputable abbrev kLt (x y : Int) : Bool := decide (x < y)
noncomputable abbrev kLe (x y : Int) : Bool := decide (x ≤ y)
noncomputable abbrev kGt (x y : Int) : Bool := decide (y < x)
noncomputable abbrev kGe (x y : Int) : Bool := decide (y ≤ x)
noncomputable def kSTEP_FILES : AV := .tup [.int 0, .int 1, .int 0, .int (-1), .int 1, .int 1, .int (-1), .int (-1)]
noncomputable def kSTEP_RANKS : AV := .tup [.int 1, .int 0, .int (-1), .int 0, .int 1, .int (-1), .int (-1), .int 1]
noncomputable def k_law_forms : AV := .tup [.tup [.int 4, .int 5, .bool true, .bool false], .tup [.int 7, .int 3, .bool false, .bool true], .tup [.int 6, .int 3, .bool false, .bool true]]
noncomputable def k_law_known : AV := .tup [.int 0, .int 1, .int 2, .int 3, .int 4, .int 5, .int 6, .int 9, .int 10, .int 11, .int 12, .int 13, .int 14]
section
variable {w : World} {base : Heap}
noncomputable def b_more_than_one : SD := bCons (sRet (dVal (dCmp (kNe) (dBin oAnd (dVar 0) (dBin oSub (dVar 0) (dInt 1))) (dInt 0))))
  (bNil)
noncomputable def d_more_than_one : FD := fDef [0] b_more_than_one
theorem c_more_than_one : DenF w base 11 21 d_more_than_one := by
  refine fDef_ok (k := 10) (by k_is) (by kernel_rfl) (by decide) (by decide) ?b ?c ?d rfl rfl rfl
  case b => exact byLen1 fun _ => rfl
  case c => decide
  case d =>
    intro L
    exact bCons_ok (sRet_ok (dCmp_ok cNe_ok (dBin_ok oAnd_ok (dVar_ok 0 rfl (by decide)) (dBin_ok oSub_ok (dVar_ok 0 rfl (by decide)) (dInt_ok))) (dInt_ok) rfl))
        (bNil_ok)
noncomputable def b_highest : SD := bCons (sIf (dCmp (kEq) (dVar 0) (dInt 0)) (bCons (sRet (dNeg (dInt 1)))
  (bNil)) (bNil))
  (bCons (sAss (dInt 1) (gName 1))
  (bCons (dWhile (dTru (dBin oShr (dVar 0) (dVar 1))) (bCons (sAugN oMul 1 (dInt 2))
  (bNil)) 8)
  (bCons (sAss (dInt 0) (gName 2))
  (bCons (dWhile (dCmp (kGt) (dVar 1) (dInt 1)) (bCons (sAugN oDiv 1 (dInt 2))
  (bCons (sIf (dTru (dBin oShr (dVar 0) (dVar 1))) (bCons (sAugN oShr 0 (dVar 1))
  (bCons (sAugN oAdd 2 (dVar 1))
  (bNil))) (bNil))
  (bNil))) 8)
  (bCons (sRet (dVar 2))
  (bNil))))))
noncomputable def d_highest : FD := fDef [0] b_highest
theorem c_highest : DenF w base 11 28 d_highest := by
  refine fDef_ok (k := 10) (by k_is) (by kernel_rfl) (by decide) (by decide) ?b ?c ?d rfl rfl rfl
  case b => exact byLen1 fun _ => rfl
  case c => decide
  case d =>
    intro L
    exact bCons_ok (sIf_ok (tCmp_ok cEq_ok (dVar_ok 0 rfl (by decide)) (dInt_ok) rfl) (bCons_ok (sRet_ok (dNeg_ok (dInt_ok)))
        (bNil_ok)) (bNil_ok))
        (bCons_ok (sAss_ok (dInt_ok) (gName_ok 1 rfl (by decide) (.inl (by kernel_rfl))) rfl rfl rfl)
        (bCons_ok (sWhile_ok 8 (tTru_ok (dBin_ok oShr_ok (dVar_ok 0 rfl (by decide)) (dVar_ok 1 rfl (by decide))) (fun _ => rfl)) (bCons_ok (sAugN_ok oMul_ok 1 rfl (by decide) (.inl (by kernel_rfl)) (dInt_ok))
        (bNil_ok)))
        (bCons_ok (sAss_ok (dInt_ok) (gName_ok 2 rfl (by decide) (.inl (by kernel_rfl))) rfl rfl rfl)
        (bCons_ok (sWhile_ok 8 (tCmp_ok cGt_ok (dVar_ok 1 rfl (by decide)) (dInt_ok) rfl) (bCons_ok (sAugN_ok oDiv_ok 1 rfl (by decide) (.inl (by kernel_rfl)) (dInt_ok))
        (bCons_ok (sIf_ok (tTru_ok (dBin_ok oShr_ok (dVar_ok 0 rfl (by decide)) (dVar_ok 1 rfl (by decide))) (fun _ => rfl)) (bCons_ok (sAugN_ok oShr_ok 0 rfl (by decide) (.inl (by kernel_rfl)) (dVar_ok 1 rfl (by decide)))
        (bCons_ok (sAugN_ok oAdd_ok 2 rfl (by decide) (.inl (by kernel_rfl)) (dVar_ok 1 rfl (by decide)))
        (bNil_ok))) (bNil_ok))
        (bNil_ok))))
        (bCons_ok (sRet_ok (dVar_ok 2 rfl (by decide)))
        (bNil_ok))))))
noncomputable def b_lowest : SD := bCons (sRet (dX (xCall d_highest (lCons (dBin oAnd (dVar 0) (dNeg (dVar 0))) (lNil)))))
  (bNil)
noncomputable def d_lowest : FD := fDef [0] b_lowest
theorem c_lowest : DenF w base 13 35 d_lowest := by
  refine fDef_ok (k := 12) (by k_is) (by kernel_rfl) (by decide) (by decide) ?b ?c ?d rfl rfl rfl
  case b => exact byLen1 fun _ => rfl
  case c => decide
  case d =>
    intro L
    exact bCons_ok (sRet_ok (dX_ok (xCall_ok (cGlob_ok (by kernel_rfl) (fun _ => by kernel_rfl) (by decide)) (fun _ => by kernel_rfl) (c_highest.mono (by decide)) (lCons_ok (dBin_ok oAnd_ok (dVar_ok 0 rfl (by decide)) (dNeg_ok (dVar_ok 0 rfl (by decide)))) (lNil_ok) rfl) rfl ⟨rfl, rfl⟩)))
        (bNil_ok)
noncomputable def b_make_piece : SD := bCons (sRet (dBin oAdd (dBin oMul (dVar 5) (dInt 8)) (dVar 6)))
  (bNil)
noncomputable def d_make_piece : FD := fDef [5, 6] b_make_piece
theorem c_make_piece : DenF w base 11 81 d_make_piece := by
  refine fDef_ok (k := 10) (by k_is) (by kernel_rfl) (by decide) (by decide) ?b ?c ?d rfl rfl rfl
  case b => exact byLen2 fun _ _ => rfl
  case c => decide
  case d =>
    intro L
    exact bCons_ok (sRet_ok (dBin_ok oAdd_ok (dBin_ok oMul_ok (dVar_ok 5 rfl (by decide)) (dInt_ok)) (dVar_ok 6 rfl (by decide))))
        (bNil_ok)
noncomputable def b_side_of : SD := bCons (sRet (dBin oShr (dVar 7) (dInt 3)))
  (bNil)
noncomputable def d_side_of : FD := fDef [7] b_side_of
theorem c_side_of : DenF w base 11 88 d_side_of := by
  refine fDef_ok (k := 10) (by k_is) (by kernel_rfl) (by decide) (by decide) ?b ?c ?d rfl rfl rfl
  case b => exact byLen1 fun _ => rfl
  case c => decide
  case d =>
    intro L
    exact bCons_ok (sRet_ok (dBin_ok oShr_ok (dVar_ok 7 rfl (by decide)) (dInt_ok)))
        (bNil_ok)
noncomputable def b_kind_of : SD := bCons (sRet (dBin oAnd (dVar 7) (dInt 7)))
  (bNil)
noncomputable def d_kind_of : FD := fDef [7] b_kind_of
theorem c_kind_of : DenF w base 11 95 d_kind_of := by
  refine fDef_ok (k := 10) (by k_is) (by kernel_rfl) (by decide) (by decide) ?b ?c ?d rfl rfl rfl
  case b => exact byLen1 fun _ => rfl
  case c => decide
  case d =>
    intro L
    exact bCons_ok (sRet_ok (dBin_ok oAnd_ok (dVar_ok 7 rfl (by decide)) (dInt_ok)))
        (bNil_ok)
noncomputable def b_IPosition : SD := bCons (sAss (dVar 8) (gAttr (dVar 3) 8))
  (bCons (sAss (dVar 9) (gAttr (dVar 3) 9))
  (bCons (sAss (dRep (dList (lCons (dK (.int 0)) (lNil))) (dAttr (dVar 8) 19)) (gAttr (dVar 3) 10))
  (bCons (sAss (dRep (dList (lCons (dInt 0) (lNil))) (dInt 7)) (gAttr (dVar 3) 11))
  (bCons (sAss (dList (lCons (dInt 0) (lCons (dInt 0) (lNil)))) (gAttr (dVar 3) 12))
  (bCons (sAss (dK (.int 0)) (gAttr (dVar 3) 5))
  (bCons (sAss (dInt 0) (gAttr (dVar 3) 13))
  (bCons (sAss (dNeg (dInt 1)) (gAttr (dVar 3) 14))
  (bCons (sAss (dInt 0) (gAttr (dVar 3) 15))
  (bCons (sAss (dInt 1) (gAttr (dVar 3) 16))
  (bCons (sAss (dInt 0) (gAttr (dVar 3) 17))
  (bCons (sAss (dList (lNil)) (gAttr (dVar 3) 18))
  (bNil))))))))))))
noncomputable def d_IPosition : FD := fDef [3, 8, 9] b_IPosition
theorem c_IPosition : DenF w base 11 109 d_IPosition := by
  refine fDef_ok (k := 10) (by k_is) (by kernel_rfl) (by decide) (by decide) ?b ?c ?d rfl rfl rfl
  case b => exact byLen3 fun _ _ _ => rfl
  case c => decide
  case d =>
    intro L
    exact bCons_ok (sAss_ok (dVar_ok 8 rfl (by decide)) (gAttr_ok 8 rfl (by decide) (dVar_ok 3 rfl (by decide))) rfl rfl rfl)
        (bCons_ok (sAss_ok (dVar_ok 9 rfl (by decide)) (gAttr_ok 9 rfl (by decide) (dVar_ok 3 rfl (by decide))) rfl rfl rfl)
        (bCons_ok (sAss_ok (dRep_ok (dList_ok (lCons_ok (dKI_ok (by kernel_rfl) (fun _ => by kernel_rfl) (by decide)) (lNil_ok) rfl)) (dAttr_ok 19 rfl (by decide) (dVar_ok 8 rfl (by decide)) rfl)) (gAttr_ok 10 rfl (by decide) (dVar_ok 3 rfl (by decide))) rfl rfl rfl)
        (bCons_ok (sAss_ok (dRep_ok (dList_ok (lCons_ok (dInt_ok) (lNil_ok) rfl)) (dInt_ok)) (gAttr_ok 11 rfl (by decide) (dVar_ok 3 rfl (by decide))) rfl rfl rfl)
        (bCons_ok (sAss_ok (dList_ok (lCons_ok (dInt_ok) (lCons_ok (dInt_ok) (lNil_ok) rfl) rfl)) (gAttr_ok 12 rfl (by decide) (dVar_ok 3 rfl (by decide))) rfl rfl rfl)
        (bCons_ok (sAss_ok (dKI_ok (by kernel_rfl) (fun _ => by kernel_rfl) (by decide)) (gAttr_ok 5 rfl (by decide) (dVar_ok 3 rfl (by decide))) rfl rfl rfl)
        (bCons_ok (sAss_ok (dInt_ok) (gAttr_ok 13 rfl (by decide) (dVar_ok 3 rfl (by decide))) rfl rfl rfl)
        (bCons_ok (sAss_ok (dNeg_ok (dInt_ok)) (gAttr_ok 14 rfl (by decide) (dVar_ok 3 rfl (by decide))) rfl rfl rfl)
        (bCons_ok (sAss_ok (dInt_ok) (gAttr_ok 15 rfl (by decide) (dVar_ok 3 rfl (by decide))) rfl rfl rfl)
        (bCons_ok (sAss_ok (dInt_ok) (gAttr_ok 16 rfl (by decide) (dVar_ok 3 rfl (by decide))) rfl rfl rfl)
        (bCons_ok (sAss_ok (dInt_ok) (gAttr_ok 17 rfl (by decide) (dVar_ok 3 rfl (by decide))) rfl rfl rfl)
        (bCons_ok (sAss_ok (dList_ok (lNil_ok)) (gAttr_ok 18 rfl (by decide) (dVar_ok 3 rfl (by decide))) rfl rfl rfl)
        (bNil_ok))))))))))))
noncomputable def b_pieces : SD := bCons (sRet (dBin oAnd (dItem (dAttr (dVar 20) 12) (dVar 5)) (dItem (dAttr (dVar 20) 11) (dVar 6))))
  (bNil)
noncomputable def d_pieces : FD := fDef [20, 5, 6] b_pieces
theorem c_pieces : DenF w base 11 123 d_pieces := by
  refine fDef_ok (k := 10) (by k_is) (by kernel_rfl) (by decide) (by decide) ?b ?c ?d rfl rfl rfl
  case b => exact byLen3 fun _ _ _ => rfl
  case c => decide
  case d =>
    intro L
    exact bCons_ok (sRet_ok (dBin_ok oAnd_ok (dItem_ok (dAttr_ok 12 rfl (by decide) (dVar_ok 20 rfl (by decide)) rfl) (dVar_ok 5 rfl (by decide)) (fun _ _ => rfl)) (dItem_ok (dAttr_ok 11 rfl (by decide) (dVar_ok 20 rfl (by decide)) rfl) (dVar_ok 6 rfl (by decide)) (fun _ _ => rfl))))
        (bNil_ok)
noncomputable def b_ep_stands : SD := bCons (sAss (dAttr (dVar 20) 8) (gName 8))
  (bCons (sIf (dOr (dNot (dTru (dAttr (dVar 8) 24))) (dOr (dCmp (kLt) (dVar 2) (dInt 0)) (dOr (dCmp (kGe) (dVar 2) (dAttr (dVar 8) 19)) (dFF)))) (bCons (sRet (dBool false))
  (bNil)) (bNil))
  (bCons (sAss (dInt 2) (gName 21))
  (bCons (sAss (dNeg (dAttr (dVar 8) 23)) (gName 22))
  (bCons (sIf (dCmp (kEq) (dAttr (dVar 20) 5) (dK (.int 0))) (bCons (sAss (dBin oSub (dAttr (dVar 8) 25) (dInt 3)) (gName 21))
  (bCons (sAss (dAttr (dVar 8) 23) (gName 22))
  (bNil))) (bNil))
  (bCons (sIf (dCmp (kNe) (dBin oDiv (dVar 2) (dAttr (dVar 8) 23)) (dVar 21)) (bCons (sRet (dBool false))
  (bNil)) (bNil))
  (bCons (sIf (dOr (dCmp (kNe) (dItem (dAttr (dVar 20) 10) (dVar 2)) (dK (.int 0))) (dOr (dCmp (kNe) (dItem (dAttr (dVar 20) 10) (dBin oAdd (dVar 2) (dVar 22))) (dK (.int 0))) (dFF))) (bCons (sRet (dBool false))
  (bNil)) (bNil))
  (bCons (sRet (dVal (dCmp (kEq) (dItem (dAttr (dVar 20) 10) (dBin oSub (dVar 2) (dVar 22))) (dX (xCall d_make_piece (lCons (dBin oSub (dInt 1) (dAttr (dVar 20) 5)) (lCons (dK (.int 1)) (lNil))))))))
  (bNil))))))))
noncomputable def d_ep_stands : FD := fDef [20, 2] b_ep_stands
theorem c_ep_stands : DenF w base 13 130 d_ep_stands := by
  refine fDef_ok (k := 12) (by k_is) (by kernel_rfl) (by decide) (by decide) ?b ?c ?d rfl rfl rfl
  case b => exact byLen2 fun _ _ => rfl
  case c => decide
  case d =>
    intro L
    exact bCons_ok (sAss_ok (dAttr_ok 8 rfl (by decide) (dVar_ok 20 rfl (by decide)) rfl) (gName_ok 8 rfl (by decide) (.inl (by kernel_rfl))) rfl rfl rfl)
        (bCons_ok (sIf_ok (tBool_ok (aOr_cons (tNot_ok (tTru_ok (dAttr_ok 24 rfl (by decide) (dVar_ok 8 rfl (by decide)) rfl) (fun _ => rfl))) (aOr_cons (tCmp_ok cLt_ok (dVar_ok 2 rfl (by decide)) (dInt_ok) rfl) (aOr_cons (tCmp_ok cGe_ok (dVar_ok 2 rfl (by decide)) (dAttr_ok 19 rfl (by decide) (dVar_ok 8 rfl (by decide)) rfl) rfl) (aOr_nil))))) (bCons_ok (sRet_ok (dBool_ok))
        (bNil_ok)) (bNil_ok))
        (bCons_ok (sAss_ok (dInt_ok) (gName_ok 21 rfl (by decide) (.inl (by kernel_rfl))) rfl rfl rfl)
        (bCons_ok (sAss_ok (dNeg_ok (dAttr_ok 23 rfl (by decide) (dVar_ok 8 rfl (by decide)) rfl)) (gName_ok 22 rfl (by decide) (.inl (by kernel_rfl))) rfl rfl rfl)
        (bCons_ok (sIf_ok (tCmp_ok cEq_ok (dAttr_ok 5 rfl (by decide) (dVar_ok 20 rfl (by decide)) rfl) (dKI_ok (by kernel_rfl) (fun _ => by kernel_rfl) (by decide)) rfl) (bCons_ok (sAss_ok (dBin_ok oSub_ok (dAttr_ok 25 rfl (by decide) (dVar_ok 8 rfl (by decide)) rfl) (dInt_ok)) (gName_ok 21 rfl (by decide) (.inl (by kernel_rfl))) rfl rfl rfl)
        (bCons_ok (sAss_ok (dAttr_ok 23 rfl (by decide) (dVar_ok 8 rfl (by decide)) rfl) (gName_ok 22 rfl (by decide) (.inl (by kernel_rfl))) rfl rfl rfl)
        (bNil_ok))) (bNil_ok))
        (bCons_ok (sIf_ok (tCmp_ok cNe_ok (dBin_ok oDiv_ok (dVar_ok 2 rfl (by decide)) (dAttr_ok 23 rfl (by decide) (dVar_ok 8 rfl (by decide)) rfl)) (dVar_ok 21 rfl (by decide)) rfl) (bCons_ok (sRet_ok (dBool_ok))
        (bNil_ok)) (bNil_ok))
        (bCons_ok (sIf_ok (tBool_ok (aOr_cons (tCmp_ok cNe_ok (dItem_ok (dAttr_ok 10 rfl (by decide) (dVar_ok 20 rfl (by decide)) rfl) (dVar_ok 2 rfl (by decide)) (fun _ _ => rfl)) (dKI_ok (by kernel_rfl) (fun _ => by kernel_rfl) (by decide)) rfl) (aOr_cons (tCmp_ok cNe_ok (dItem_ok (dAttr_ok 10 rfl (by decide) (dVar_ok 20 rfl (by decide)) rfl) (dBin_ok oAdd_ok (dVar_ok 2 rfl (by decide)) (dVar_ok 22 rfl (by decide))) (fun _ _ => rfl)) (dKI_ok (by kernel_rfl) (fun _ => by kernel_rfl) (by decide)) rfl) (aOr_nil)))) (bCons_ok (sRet_ok (dBool_ok))
        (bNil_ok)) (bNil_ok))
        (bCons_ok (sRet_ok (dCmp_ok cEq_ok (dItem_ok (dAttr_ok 10 rfl (by decide) (dVar_ok 20 rfl (by decide)) rfl) (dBin_ok oSub_ok (dVar_ok 2 rfl (by decide)) (dVar_ok 22 rfl (by decide))) (fun _ _ => rfl)) (dX_ok (xCall_ok (cGlob_ok (by kernel_rfl) (fun _ => by kernel_rfl) (by decide)) (fun _ => by kernel_rfl) (c_make_piece.mono (by decide)) (lCons_ok (dBin_ok oSub_ok (dInt_ok) (dAttr_ok 5 rfl (by decide) (dVar_ok 20 rfl (by decide)) rfl)) (lCons_ok (dKI_ok (by kernel_rfl) (fun _ => by kernel_rfl) (by decide)) (lNil_ok) rfl) rfl) rfl ⟨rfl, rfl⟩)) rfl))
        (bNil_ok))))))))
noncomputable def b_ep_attacked : SD := bCons (sRet (dVal (dCmp (kNe) (dBin oAnd (dItem (dItem (dAttr (dAttr (dVar 20) 8) 26) (dBin oSub (dInt 1) (dAttr (dVar 20) 5))) (dVar 2)) (dX (xCall d_pieces (lCons (dVar 20) (lCons (dAttr (dVar 20) 5) (lCons (dK (.int 1)) (lNil))))))) (dInt 0))))
  (bNil)
noncomputable def d_ep_attacked : FD := fDef [20, 2] b_ep_attacked
theorem c_ep_attacked : DenF w base 13 137 d_ep_attacked := by
  refine fDef_ok (k := 12) (by k_is) (by kernel_rfl) (by decide) (by decide) ?b ?c ?d rfl rfl rfl
  case b => exact byLen2 fun _ _ => rfl
  case c => decide
  case d =>
    intro L
    exact bCons_ok (sRet_ok (dCmp_ok cNe_ok (dBin_ok oAnd_ok (dItem_ok (dItem_ok (dAttr_ok 26 rfl (by decide) (dAttr_ok 8 rfl (by decide) (dVar_ok 20 rfl (by decide)) rfl) rfl) (dBin_ok oSub_ok (dInt_ok) (dAttr_ok 5 rfl (by decide) (dVar_ok 20 rfl (by decide)) rfl)) (fun _ _ => rfl)) (dVar_ok 2 rfl (by decide)) (fun _ _ => rfl)) (dX_ok (xCall_ok (cGlob_ok (by kernel_rfl) (fun _ => by kernel_rfl) (by decide)) (fun _ => by kernel_rfl) (c_pieces.mono (by decide)) (lCons_ok (dVar_ok 20 rfl (by decide)) (lCons_ok (dAttr_ok 5 rfl (by decide) (dVar_ok 20 rfl (by decide)) rfl) (lCons_ok (dKI_ok (by kernel_rfl) (fun _ => by kernel_rfl) (by decide)) (lNil_ok) rfl) rfl) rfl) rfl ⟨rfl, rfl⟩))) (dInt_ok) rfl))
        (bNil_ok)
noncomputable def b_check_boards : SD := bCons (sAss (dAttr (dVar 20) 8) (gName 8))
  (bCons (sIf (dOr (dCmp (kNe) (dLen (dAttr (dVar 20) 10)) (dAttr (dVar 8) 19)) (dOr (dCmp (kNe) (dLen (dAttr (dVar 20) 11)) (dInt 7)) (dOr (dCmp (kNe) (dLen (dAttr (dVar 20) 12)) (dInt 2)) (dFF)))) (bCons (sRaise (dNeg (dInt 1)))
  (bNil)) (bNil))
  (bCons (sAss (dRep (dList (lCons (dInt 0) (lNil))) (dInt 7)) (gName 11))
  (bCons (sAss (dList (lCons (dInt 0) (lCons (dInt 0) (lNil)))) (gName 12))
  (bCons (sFor (dRange (lCons (dAttr (dVar 8) 19) (lNil))) (gName 2) (bCons (sAss (dItem (dAttr (dVar 20) 10) (dVar 2)) (gName 7))
  (bCons (sIf (dCmp (kEq) (dVar 7) (dK (.int 0))) (bCons (sCont)
  (bNil)) (bNil))
  (bCons (sIf (dOr (dNot (dChain (kLt) (kLt) (dInt 0) (dVar 7) (dInt 15))) (dOr (dNot (dChain (kLe) (kLe) (dK (.int 1)) (dX (xCall d_kind_of (lCons (dVar 7) (lNil)))) (dK (.int 6)))) (dFF))) (bCons (sRaise (dVar 2))
  (bNil)) (bNil))
  (bCons (sAugI oOr (dVar 11) (dX (xCall d_kind_of (lCons (dVar 7) (lNil)))) (dBin oShl (dInt 1) (dVar 2)))
  (bCons (sAugI oOr (dVar 12) (dX (xCall d_side_of (lCons (dVar 7) (lNil)))) (dBin oShl (dInt 1) (dVar 2)))
  (bNil)))))))
  (bCons (sAss (dBin oOr (dBin oXor (dItem (dVar 12) (dK (.int 0))) (dItem (dAttr (dVar 20) 12) (dK (.int 0)))) (dBin oXor (dItem (dVar 12) (dK (.int 1))) (dItem (dAttr (dVar 20) 12) (dK (.int 1))))) (gName 27))
  (bCons (sFor (dRange (lCons (dInt 7) (lNil))) (gName 6) (bCons (sAugN oOr 27 (dBin oXor (dItem (dVar 11) (dVar 6)) (dItem (dAttr (dVar 20) 11) (dVar 6))))
  (bNil)))
  (bCons (sIf (dOr (dCmp (kLt) (dVar 27) (dInt 0)) (dOr (dCmp (kGt) (dVar 27) (dAttr (dVar 8) 16)) (dFF))) (bCons (sRaise (dNeg (dInt 1)))
  (bNil)) (bNil))
  (bCons (sIf (dCmp (kNe) (dVar 27) (dInt 0)) (bCons (sRaise (dX (xCall d_lowest (lCons (dVar 27) (lNil)))))
  (bNil)) (bNil))
  (bNil)))))))))
noncomputable def d_check_boards : FD := fDef [20] b_check_boards
theorem c_check_boards : DenF w base 15 144 d_check_boards := by
  refine fDef_ok (k := 14) (by k_is) (by kernel_rfl) (by decide) (by decide) ?b ?c ?d rfl rfl rfl
  case b => exact byLen1 fun _ => rfl
  case c => decide
  case d =>
    intro L
    exact bCons_ok (sAss_ok (dAttr_ok 8 rfl (by decide) (dVar_ok 20 rfl (by decide)) rfl) (gName_ok 8 rfl (by decide) (.inl (by kernel_rfl))) rfl rfl rfl)
        (bCons_ok (sIf_ok (tBool_ok (aOr_cons (tCmp_ok cNe_ok (dLen_ok (cBoot_ok (by kernel_rfl) (fun _ => by kernel_rfl) boot_len (by decide) (by decide)) (dAttr_ok 10 rfl (by decide) (dVar_ok 20 rfl (by decide)) rfl) rfl ⟨rfl, rfl⟩) (dAttr_ok 19 rfl (by decide) (dVar_ok 8 rfl (by decide)) rfl) rfl) (aOr_cons (tCmp_ok cNe_ok (dLen_ok (cBoot_ok (by kernel_rfl) (fun _ => by kernel_rfl) boot_len (by decide) (by decide)) (dAttr_ok 11 rfl (by decide) (dVar_ok 20 rfl (by decide)) rfl) rfl ⟨rfl, rfl⟩) (dInt_ok) rfl) (aOr_cons (tCmp_ok cNe_ok (dLen_ok (cBoot_ok (by kernel_rfl) (fun _ => by kernel_rfl) boot_len (by decide) (by decide)) (dAttr_ok 12 rfl (by decide) (dVar_ok 20 rfl (by decide)) rfl) rfl ⟨rfl, rfl⟩) (dInt_ok) rfl) (aOr_nil))))) (bCons_ok (sRaise_ok (cGlob_ok (by kernel_rfl) (fun _ => by kernel_rfl) (by decide)) (dNeg_ok (dInt_ok)) rfl ⟨rfl, rfl⟩ ⟨rfl, rfl⟩)
        (bNil_ok)) (bNil_ok))
        (bCons_ok (sAss_ok (dRep_ok (dList_ok (lCons_ok (dInt_ok) (lNil_ok) rfl)) (dInt_ok)) (gName_ok 11 rfl (by decide) (.inl (by kernel_rfl))) rfl rfl rfl)
        (bCons_ok (sAss_ok (dList_ok (lCons_ok (dInt_ok) (lCons_ok (dInt_ok) (lNil_ok) rfl) rfl)) (gName_ok 12 rfl (by decide) (.inl (by kernel_rfl))) rfl rfl rfl)
        (bCons_ok (sFor_ok (dRange_ok (cBoot_ok (by kernel_rfl) (fun _ => by kernel_rfl) boot_range (by decide) (by decide)) (lCons_ok (dAttr_ok 19 rfl (by decide) (dVar_ok 8 rfl (by decide)) rfl) (lNil_ok) rfl) rfl ⟨rfl, rfl⟩) (gName_ok 2 rfl (by decide) (.inl (by kernel_rfl))) (bCons_ok (sAss_ok (dItem_ok (dAttr_ok 10 rfl (by decide) (dVar_ok 20 rfl (by decide)) rfl) (dVar_ok 2 rfl (by decide)) (fun _ _ => rfl)) (gName_ok 7 rfl (by decide) (.inl (by kernel_rfl))) rfl rfl rfl)
        (bCons_ok (sIf_ok (tCmp_ok cEq_ok (dVar_ok 7 rfl (by decide)) (dKI_ok (by kernel_rfl) (fun _ => by kernel_rfl) (by decide)) rfl) (bCons_ok (sCont_ok)
        (bNil_ok)) (bNil_ok))
        (bCons_ok (sIf_ok (tBool_ok (aOr_cons (tNot_ok (tChain_ok cLt_ok cLt_ok (dInt_ok) (dVar_ok 7 rfl (by decide)) (dInt_ok) rfl)) (aOr_cons (tNot_ok (tChain_ok cLe_ok cLe_ok (dKI_ok (by kernel_rfl) (fun _ => by kernel_rfl) (by decide)) (dX_ok (xCall_ok (cGlob_ok (by kernel_rfl) (fun _ => by kernel_rfl) (by decide)) (fun _ => by kernel_rfl) (c_kind_of.mono (by decide)) (lCons_ok (dVar_ok 7 rfl (by decide)) (lNil_ok) rfl) rfl ⟨rfl, rfl⟩)) (dKI_ok (by kernel_rfl) (fun _ => by kernel_rfl) (by decide)) rfl)) (aOr_nil)))) (bCons_ok (sRaise_ok (cGlob_ok (by kernel_rfl) (fun _ => by kernel_rfl) (by decide)) (dVar_ok 2 rfl (by decide)) rfl ⟨rfl, rfl⟩ ⟨rfl, rfl⟩)
        (bNil_ok)) (bNil_ok))
        (bCons_ok (sAugI_ok oOr_ok (dVar_ok 11 rfl (by decide)) (dX_ok (xCall_ok (cGlob_ok (by kernel_rfl) (fun _ => by kernel_rfl) (by decide)) (fun _ => by kernel_rfl) (c_kind_of.mono (by decide)) (lCons_ok (dVar_ok 7 rfl (by decide)) (lNil_ok) rfl) rfl ⟨rfl, rfl⟩)) (dBin_ok oShl_ok (dInt_ok) (dVar_ok 2 rfl (by decide))) (fun _ _ _ => rfl))
        (bCons_ok (sAugI_ok oOr_ok (dVar_ok 12 rfl (by decide)) (dX_ok (xCall_ok (cGlob_ok (by kernel_rfl) (fun _ => by kernel_rfl) (by decide)) (fun _ => by kernel_rfl) (c_side_of.mono (by decide)) (lCons_ok (dVar_ok 7 rfl (by decide)) (lNil_ok) rfl) rfl ⟨rfl, rfl⟩)) (dBin_ok oShl_ok (dInt_ok) (dVar_ok 2 rfl (by decide))) (fun _ _ _ => rfl))
        (bNil_ok)))))) rfl (fun _ _ => rfl) (fun _ => rfl))
        (bCons_ok (sAss_ok (dBin_ok oOr_ok (dBin_ok oXor_ok (dItem_ok (dVar_ok 12 rfl (by decide)) (dKI_ok (by kernel_rfl) (fun _ => by kernel_rfl) (by decide)) (fun _ _ => rfl)) (dItem_ok (dAttr_ok 12 rfl (by decide) (dVar_ok 20 rfl (by decide)) rfl) (dKI_ok (by kernel_rfl) (fun _ => by kernel_rfl) (by decide)) (fun _ _ => rfl))) (dBin_ok oXor_ok (dItem_ok (dVar_ok 12 rfl (by decide)) (dKI_ok (by kernel_rfl) (fun _ => by kernel_rfl) (by decide)) (fun _ _ => rfl)) (dItem_ok (dAttr_ok 12 rfl (by decide) (dVar_ok 20 rfl (by decide)) rfl) (dKI_ok (by kernel_rfl) (fun _ => by kernel_rfl) (by decide)) (fun _ _ => rfl)))) (gName_ok 27 rfl (by decide) (.inl (by kernel_rfl))) rfl rfl rfl)
        (bCons_ok (sFor_ok (dRange_ok (cBoot_ok (by kernel_rfl) (fun _ => by kernel_rfl) boot_range (by decide) (by decide)) (lCons_ok (dInt_ok) (lNil_ok) rfl) rfl ⟨rfl, rfl⟩) (gName_ok 6 rfl (by decide) (.inl (by kernel_rfl))) (bCons_ok (sAugN_ok oOr_ok 27 rfl (by decide) (.inl (by kernel_rfl)) (dBin_ok oXor_ok (dItem_ok (dVar_ok 11 rfl (by decide)) (dVar_ok 6 rfl (by decide)) (fun _ _ => rfl)) (dItem_ok (dAttr_ok 11 rfl (by decide) (dVar_ok 20 rfl (by decide)) rfl) (dVar_ok 6 rfl (by decide)) (fun _ _ => rfl))))
        (bNil_ok)) rfl (fun _ _ => rfl) (fun _ => rfl))
        (bCons_ok (sIf_ok (tBool_ok (aOr_cons (tCmp_ok cLt_ok (dVar_ok 27 rfl (by decide)) (dInt_ok) rfl) (aOr_cons (tCmp_ok cGt_ok (dVar_ok 27 rfl (by decide)) (dAttr_ok 16 rfl (by decide) (dVar_ok 8 rfl (by decide)) rfl) rfl) (aOr_nil)))) (bCons_ok (sRaise_ok (cGlob_ok (by kernel_rfl) (fun _ => by kernel_rfl) (by decide)) (dNeg_ok (dInt_ok)) rfl ⟨rfl, rfl⟩ ⟨rfl, rfl⟩)
        (bNil_ok)) (bNil_ok))
        (bCons_ok (sIf_ok (tCmp_ok cNe_ok (dVar_ok 27 rfl (by decide)) (dInt_ok) rfl) (bCons_ok (sRaise_ok (cGlob_ok (by kernel_rfl) (fun _ => by kernel_rfl) (by decide)) (dX_ok (xCall_ok (cGlob_ok (by kernel_rfl) (fun _ => by kernel_rfl) (by decide)) (fun _ => by kernel_rfl) (c_lowest.mono (by decide)) (lCons_ok (dVar_ok 27 rfl (by decide)) (lNil_ok) rfl) rfl ⟨rfl, rfl⟩)) rfl ⟨rfl, rfl⟩ ⟨rfl, rfl⟩)
        (bNil_ok)) (bNil_ok))
        (bNil_ok)))))))))
noncomputable def b_check_kings : SD := bCons (sFor (dTup (lCons (dK (.int 0)) (lCons (dK (.int 1)) (lNil)))) (gName 5) (bCons (sAss (dX (xCall d_pieces (lCons (dVar 20) (lCons (dVar 5) (lCons (dK (.int 6)) (lNil)))))) (gName 28))
  (bCons (sIf (dCmp (kEq) (dVar 28) (dInt 0)) (bCons (sRaise (dNeg (dInt 1)))
  (bNil)) (bNil))
  (bCons (sIf (dTru (dX (xCall d_more_than_one (lCons (dVar 28) (lNil))))) (bCons (sRaise (dX (xCall d_highest (lCons (dVar 28) (lNil)))))
  (bNil)) (bNil))
  (bNil)))))
  (bNil)
noncomputable def d_check_kings : FD := fDef [20] b_check_kings
theorem c_check_kings : DenF w base 13 151 d_check_kings := by
  refine fDef_ok (k := 12) (by k_is) (by kernel_rfl) (by decide) (by decide) ?b ?c ?d rfl rfl rfl
  case b => exact byLen1 fun _ => rfl
  case c => decide
  case d =>
    intro L
    exact bCons_ok (sFor_ok (dTup_ok (lCons_ok (dKI_ok (by kernel_rfl) (fun _ => by kernel_rfl) (by decide)) (lCons_ok (dKI_ok (by kernel_rfl) (fun _ => by kernel_rfl) (by decide)) (lNil_ok) rfl) rfl)) (gName_ok 5 rfl (by decide) (.inl (by kernel_rfl))) (bCons_ok (sAss_ok (dX_ok (xCall_ok (cGlob_ok (by kernel_rfl) (fun _ => by kernel_rfl) (by decide)) (fun _ => by kernel_rfl) (c_pieces.mono (by decide)) (lCons_ok (dVar_ok 20 rfl (by decide)) (lCons_ok (dVar_ok 5 rfl (by decide)) (lCons_ok (dKI_ok (by kernel_rfl) (fun _ => by kernel_rfl) (by decide)) (lNil_ok) rfl) rfl) rfl) rfl ⟨rfl, rfl⟩)) (gName_ok 28 rfl (by decide) (.inl (by kernel_rfl))) rfl rfl rfl)
        (bCons_ok (sIf_ok (tCmp_ok cEq_ok (dVar_ok 28 rfl (by decide)) (dInt_ok) rfl) (bCons_ok (sRaise_ok (cGlob_ok (by kernel_rfl) (fun _ => by kernel_rfl) (by decide)) (dNeg_ok (dInt_ok)) rfl ⟨rfl, rfl⟩ ⟨rfl, rfl⟩)
        (bNil_ok)) (bNil_ok))
        (bCons_ok (sIf_ok (tTru_ok (dX_ok (xCall_ok (cGlob_ok (by kernel_rfl) (fun _ => by kernel_rfl) (by decide)) (fun _ => by kernel_rfl) (c_more_than_one.mono (by decide)) (lCons_ok (dVar_ok 28 rfl (by decide)) (lNil_ok) rfl) rfl ⟨rfl, rfl⟩)) (fun _ => rfl)) (bCons_ok (sRaise_ok (cGlob_ok (by kernel_rfl) (fun _ => by kernel_rfl) (by decide)) (dX_ok (xCall_ok (cGlob_ok (by kernel_rfl) (fun _ => by kernel_rfl) (by decide)) (fun _ => by kernel_rfl) (c_highest.mono (by decide)) (lCons_ok (dVar_ok 28 rfl (by decide)) (lNil_ok) rfl) rfl ⟨rfl, rfl⟩)) rfl ⟨rfl, rfl⟩ ⟨rfl, rfl⟩)
        (bNil_ok)) (bNil_ok))
        (bNil_ok)))) rfl (fun _ _ => rfl) (fun _ => rfl))
        (bNil_ok)
noncomputable def b_check_pawns : SD := bCons (sAss (dAttr (dVar 20) 8) (gName 8))
  (bCons (sAss (dBin oAnd (dItem (dAttr (dVar 20) 11) (dK (.int 1))) (dBin oOr (dItem (dAttr (dVar 8) 29) (dInt 0)) (dItem (dAttr (dVar 8) 29) (dBin oSub (dAttr (dVar 8) 25) (dInt 1))))) (gName 27))
  (bCons (sIf (dCmp (kNe) (dVar 27) (dInt 0)) (bCons (sRaise (dX (xCall d_lowest (lCons (dVar 27) (lNil)))))
  (bNil)) (bNil))
  (bNil)))
noncomputable def d_check_pawns : FD := fDef [20] b_check_pawns
theorem c_check_pawns : DenF w base 15 158 d_check_pawns := by
  refine fDef_ok (k := 14) (by k_is) (by kernel_rfl) (by decide) (by decide) ?b ?c ?d rfl rfl rfl
  case b => exact byLen1 fun _ => rfl
  case c => decide
  case d =>
    intro L
    exact bCons_ok (sAss_ok (dAttr_ok 8 rfl (by decide) (dVar_ok 20 rfl (by decide)) rfl) (gName_ok 8 rfl (by decide) (.inl (by kernel_rfl))) rfl rfl rfl)
        (bCons_ok (sAss_ok (dBin_ok oAnd_ok (dItem_ok (dAttr_ok 11 rfl (by decide) (dVar_ok 20 rfl (by decide)) rfl) (dKI_ok (by kernel_rfl) (fun _ => by kernel_rfl) (by decide)) (fun _ _ => rfl)) (dBin_ok oOr_ok (dItem_ok (dAttr_ok 29 rfl (by decide) (dVar_ok 8 rfl (by decide)) rfl) (dInt_ok) (fun _ _ => rfl)) (dItem_ok (dAttr_ok 29 rfl (by decide) (dVar_ok 8 rfl (by decide)) rfl) (dBin_ok oSub_ok (dAttr_ok 25 rfl (by decide) (dVar_ok 8 rfl (by decide)) rfl) (dInt_ok)) (fun _ _ => rfl)))) (gName_ok 27 rfl (by decide) (.inl (by kernel_rfl))) rfl rfl rfl)
        (bCons_ok (sIf_ok (tCmp_ok cNe_ok (dVar_ok 27 rfl (by decide)) (dInt_ok) rfl) (bCons_ok (sRaise_ok (cGlob_ok (by kernel_rfl) (fun _ => by kernel_rfl) (by decide)) (dX_ok (xCall_ok (cGlob_ok (by kernel_rfl) (fun _ => by kernel_rfl) (by decide)) (fun _ => by kernel_rfl) (c_lowest.mono (by decide)) (lCons_ok (dVar_ok 27 rfl (by decide)) (lNil_ok) rfl) rfl ⟨rfl, rfl⟩)) rfl ⟨rfl, rfl⟩ ⟨rfl, rfl⟩)
        (bNil_ok)) (bNil_ok))
        (bNil_ok)))
noncomputable def b_check_rights : SD := bCons (sIf (dNot (dChain (kLe) (kLt) (dInt 0) (dAttr (dVar 20) 13) (dInt 16))) (bCons (sRaise (dNeg (dInt 1)))
  (bNil)) (bNil))
  (bCons (sFor (dRange (lCons (dInt 4) (lNil))) (gName 30) (bCons (sIf (dCmp (kEq) (dBin oAnd (dAttr (dVar 20) 13) (dBin oShl (dInt 1) (dVar 30))) (dInt 0)) (bCons (sCont)
  (bNil)) (bNil))
  (bCons (sAss (dItem (dAttr (dAttr (dVar 20) 8) 32) (dVar 30)) (gName 31))
  (bCons (sIf (dIsN (dVar 31)) (bCons (sRaise (dNeg (dInt 1)))
  (bNil)) (bNil))
  (bCons (sIf (dCmp (kNe) (dItem (dAttr (dVar 20) 10) (dItem (dVar 31) (dInt 0))) (dX (xCall d_make_piece (lCons (dBin oShr (dVar 30) (dInt 1)) (lCons (dK (.int 6)) (lNil)))))) (bCons (sRaise (dItem (dVar 31) (dInt 0)))
  (bNil)) (bNil))
  (bCons (sIf (dCmp (kNe) (dItem (dAttr (dVar 20) 10) (dItem (dVar 31) (dInt 2))) (dX (xCall d_make_piece (lCons (dBin oShr (dVar 30) (dInt 1)) (lCons (dK (.int 4)) (lNil)))))) (bCons (sRaise (dItem (dVar 31) (dInt 2)))
  (bNil)) (bNil))
  (bNil)))))))
  (bNil))
noncomputable def d_check_rights : FD := fDef [20] b_check_rights
theorem c_check_rights : DenF w base 13 165 d_check_rights := by
  refine fDef_ok (k := 12) (by k_is) (by kernel_rfl) (by decide) (by decide) ?b ?c ?d rfl rfl rfl
  case b => exact byLen1 fun _ => rfl
  case c => decide
  case d =>
    intro L
    exact bCons_ok (sIf_ok (tNot_ok (tChain_ok cLe_ok cLt_ok (dInt_ok) (dAttr_ok 13 rfl (by decide) (dVar_ok 20 rfl (by decide)) rfl) (dInt_ok) rfl)) (bCons_ok (sRaise_ok (cGlob_ok (by kernel_rfl) (fun _ => by kernel_rfl) (by decide)) (dNeg_ok (dInt_ok)) rfl ⟨rfl, rfl⟩ ⟨rfl, rfl⟩)
        (bNil_ok)) (bNil_ok))
        (bCons_ok (sFor_ok (dRange_ok (cBoot_ok (by kernel_rfl) (fun _ => by kernel_rfl) boot_range (by decide) (by decide)) (lCons_ok (dInt_ok) (lNil_ok) rfl) rfl ⟨rfl, rfl⟩) (gName_ok 30 rfl (by decide) (.inl (by kernel_rfl))) (bCons_ok (sIf_ok (tCmp_ok cEq_ok (dBin_ok oAnd_ok (dAttr_ok 13 rfl (by decide) (dVar_ok 20 rfl (by decide)) rfl) (dBin_ok oShl_ok (dInt_ok) (dVar_ok 30 rfl (by decide)))) (dInt_ok) rfl) (bCons_ok (sCont_ok)
        (bNil_ok)) (bNil_ok))
        (bCons_ok (sAss_ok (dItem_ok (dAttr_ok 32 rfl (by decide) (dAttr_ok 8 rfl (by decide) (dVar_ok 20 rfl (by decide)) rfl) rfl) (dVar_ok 30 rfl (by decide)) (fun _ _ => rfl)) (gName_ok 31 rfl (by decide) (.inl (by kernel_rfl))) rfl rfl rfl)
        (bCons_ok (sIf_ok (tIsN_ok (dVar_ok 31 rfl (by decide))) (bCons_ok (sRaise_ok (cGlob_ok (by kernel_rfl) (fun _ => by kernel_rfl) (by decide)) (dNeg_ok (dInt_ok)) rfl ⟨rfl, rfl⟩ ⟨rfl, rfl⟩)
        (bNil_ok)) (bNil_ok))
        (bCons_ok (sIf_ok (tCmp_ok cNe_ok (dItem_ok (dAttr_ok 10 rfl (by decide) (dVar_ok 20 rfl (by decide)) rfl) (dItem_ok (dVar_ok 31 rfl (by decide)) (dInt_ok) (fun _ _ => rfl)) (fun _ _ => rfl)) (dX_ok (xCall_ok (cGlob_ok (by kernel_rfl) (fun _ => by kernel_rfl) (by decide)) (fun _ => by kernel_rfl) (c_make_piece.mono (by decide)) (lCons_ok (dBin_ok oShr_ok (dVar_ok 30 rfl (by decide)) (dInt_ok)) (lCons_ok (dKI_ok (by kernel_rfl) (fun _ => by kernel_rfl) (by decide)) (lNil_ok) rfl) rfl) rfl ⟨rfl, rfl⟩)) rfl) (bCons_ok (sRaise_ok (cGlob_ok (by kernel_rfl) (fun _ => by kernel_rfl) (by decide)) (dItem_ok (dVar_ok 31 rfl (by decide)) (dInt_ok) (fun _ _ => rfl)) rfl ⟨rfl, rfl⟩ ⟨rfl, rfl⟩)
        (bNil_ok)) (bNil_ok))
        (bCons_ok (sIf_ok (tCmp_ok cNe_ok (dItem_ok (dAttr_ok 10 rfl (by decide) (dVar_ok 20 rfl (by decide)) rfl) (dItem_ok (dVar_ok 31 rfl (by decide)) (dInt_ok) (fun _ _ => rfl)) (fun _ _ => rfl)) (dX_ok (xCall_ok (cGlob_ok (by kernel_rfl) (fun _ => by kernel_rfl) (by decide)) (fun _ => by kernel_rfl) (c_make_piece.mono (by decide)) (lCons_ok (dBin_ok oShr_ok (dVar_ok 30 rfl (by decide)) (dInt_ok)) (lCons_ok (dKI_ok (by kernel_rfl) (fun _ => by kernel_rfl) (by decide)) (lNil_ok) rfl) rfl) rfl ⟨rfl, rfl⟩)) rfl) (bCons_ok (sRaise_ok (cGlob_ok (by kernel_rfl) (fun _ => by kernel_rfl) (by decide)) (dItem_ok (dVar_ok 31 rfl (by decide)) (dInt_ok) (fun _ _ => rfl)) rfl ⟨rfl, rfl⟩ ⟨rfl, rfl⟩)
        (bNil_ok)) (bNil_ok))
        (bNil_ok)))))) rfl (fun _ _ => rfl) (fun _ => rfl))
        (bNil_ok))
noncomputable def b_check_ep : SD := bCons (sIf (dCmp (kEq) (dAttr (dVar 20) 14) (dNeg (dInt 1))) (bCons (sRet0)
  (bNil)) (bNil))
  (bCons (sIf (dNot (dTru (dX (xCall d_ep_stands (lCons (dVar 20) (lCons (dAttr (dVar 20) 14) (lNil))))))) (bCons (sRaise (dAttr (dVar 20) 14))
  (bNil)) (bNil))
  (bCons (sIf (dNot (dTru (dX (xCall d_ep_attacked (lCons (dVar 20) (lCons (dAttr (dVar 20) 14) (lNil))))))) (bCons (sRaise (dAttr (dVar 20) 14))
  (bNil)) (bNil))
  (bNil)))
noncomputable def d_check_ep : FD := fDef [20] b_check_ep
theorem c_check_ep : DenF w base 15 172 d_check_ep := by
  refine fDef_ok (k := 14) (by k_is) (by kernel_rfl) (by decide) (by decide) ?b ?c ?d rfl rfl rfl
  case b => exact byLen1 fun _ => rfl
  case c => decide
  case d =>
    intro L
    exact bCons_ok (sIf_ok (tCmp_ok cEq_ok (dAttr_ok 14 rfl (by decide) (dVar_ok 20 rfl (by decide)) rfl) (dNeg_ok (dInt_ok)) rfl) (bCons_ok (sRet0_ok)
        (bNil_ok)) (bNil_ok))
        (bCons_ok (sIf_ok (tNot_ok (tTru_ok (dX_ok (xCall_ok (cGlob_ok (by kernel_rfl) (fun _ => by kernel_rfl) (by decide)) (fun _ => by kernel_rfl) (c_ep_stands.mono (by decide)) (lCons_ok (dVar_ok 20 rfl (by decide)) (lCons_ok (dAttr_ok 14 rfl (by decide) (dVar_ok 20 rfl (by decide)) rfl) (lNil_ok) rfl) rfl) rfl ⟨rfl, rfl⟩)) (fun _ => rfl))) (bCons_ok (sRaise_ok (cGlob_ok (by kernel_rfl) (fun _ => by kernel_rfl) (by decide)) (dAttr_ok 14 rfl (by decide) (dVar_ok 20 rfl (by decide)) rfl) rfl ⟨rfl, rfl⟩ ⟨rfl, rfl⟩)
        (bNil_ok)) (bNil_ok))
        (bCons_ok (sIf_ok (tNot_ok (tTru_ok (dX_ok (xCall_ok (cGlob_ok (by kernel_rfl) (fun _ => by kernel_rfl) (by decide)) (fun _ => by kernel_rfl) (c_ep_attacked.mono (by decide)) (lCons_ok (dVar_ok 20 rfl (by decide)) (lCons_ok (dAttr_ok 14 rfl (by decide) (dVar_ok 20 rfl (by decide)) rfl) (lNil_ok) rfl) rfl) rfl ⟨rfl, rfl⟩)) (fun _ => rfl))) (bCons_ok (sRaise_ok (cGlob_ok (by kernel_rfl) (fun _ => by kernel_rfl) (by decide)) (dAttr_ok 14 rfl (by decide) (dVar_ok 20 rfl (by decide)) rfl) rfl ⟨rfl, rfl⟩ ⟨rfl, rfl⟩)
        (bNil_ok)) (bNil_ok))
        (bNil_ok)))
noncomputable def b_check_position : SD := bCons (sIf (dAnd (dCmp (kNe) (dAttr (dVar 20) 5) (dK (.int 0))) (dAnd (dCmp (kNe) (dAttr (dVar 20) 5) (dK (.int 1))) (dTT))) (bCons (sRaise (dNeg (dInt 1)))
  (bNil)) (bNil))
  (bCons (sIf (dOr (dCmp (kLt) (dAttr (dVar 20) 15) (dInt 0)) (dOr (dCmp (kLt) (dAttr (dVar 20) 16) (dInt 1)) (dFF))) (bCons (sRaise (dNeg (dInt 1)))
  (bNil)) (bNil))
  (bCons (sExpr (xCall d_check_boards (lCons (dVar 20) (lNil))))
  (bCons (sExpr (xCall d_check_kings (lCons (dVar 20) (lNil))))
  (bCons (sExpr (xCall d_check_pawns (lCons (dVar 20) (lNil))))
  (bCons (sExpr (xCall d_check_rights (lCons (dVar 20) (lNil))))
  (bCons (sExpr (xCall d_check_ep (lCons (dVar 20) (lNil))))
  (bNil)))))))
noncomputable def d_check_position : FD := fDef [20] b_check_position
theorem c_check_position : DenF w base 17 179 d_check_position := by
  refine fDef_ok (k := 16) (by k_is) (by kernel_rfl) (by decide) (by decide) ?b ?c ?d rfl rfl rfl
  case b => exact byLen1 fun _ => rfl
  case c => decide
  case d =>
    intro L
    exact bCons_ok (sIf_ok (tBool_ok (aAnd_cons (tCmp_ok cNe_ok (dAttr_ok 5 rfl (by decide) (dVar_ok 20 rfl (by decide)) rfl) (dKI_ok (by kernel_rfl) (fun _ => by kernel_rfl) (by decide)) rfl) (aAnd_cons (tCmp_ok cNe_ok (dAttr_ok 5 rfl (by decide) (dVar_ok 20 rfl (by decide)) rfl) (dKI_ok (by kernel_rfl) (fun _ => by kernel_rfl) (by decide)) rfl) (aAnd_nil)))) (bCons_ok (sRaise_ok (cGlob_ok (by kernel_rfl) (fun _ => by kernel_rfl) (by decide)) (dNeg_ok (dInt_ok)) rfl ⟨rfl, rfl⟩ ⟨rfl, rfl⟩)
        (bNil_ok)) (bNil_ok))
        (bCons_ok (sIf_ok (tBool_ok (aOr_cons (tCmp_ok cLt_ok (dAttr_ok 15 rfl (by decide) (dVar_ok 20 rfl (by decide)) rfl) (dInt_ok) rfl) (aOr_cons (tCmp_ok cLt_ok (dAttr_ok 16 rfl (by decide) (dVar_ok 20 rfl (by decide)) rfl) (dInt_ok) rfl) (aOr_nil)))) (bCons_ok (sRaise_ok (cGlob_ok (by kernel_rfl) (fun _ => by kernel_rfl) (by decide)) (dNeg_ok (dInt_ok)) rfl ⟨rfl, rfl⟩ ⟨rfl, rfl⟩)
        (bNil_ok)) (bNil_ok))
        (bCons_ok (sExpr_ok (xCall_ok (cGlob_ok (by kernel_rfl) (fun _ => by kernel_rfl) (by decide)) (fun _ => by kernel_rfl) (c_check_boards.mono (by decide)) (lCons_ok (dVar_ok 20 rfl (by decide)) (lNil_ok) rfl) rfl ⟨rfl, rfl⟩) rfl rfl)
        (bCons_ok (sExpr_ok (xCall_ok (cGlob_ok (by kernel_rfl) (fun _ => by kernel_rfl) (by decide)) (fun _ => by kernel_rfl) (c_check_kings.mono (by decide)) (lCons_ok (dVar_ok 20 rfl (by decide)) (lNil_ok) rfl) rfl ⟨rfl, rfl⟩) rfl rfl)
        (bCons_ok (sExpr_ok (xCall_ok (cGlob_ok (by kernel_rfl) (fun _ => by kernel_rfl) (by decide)) (fun _ => by kernel_rfl) (c_check_pawns.mono (by decide)) (lCons_ok (dVar_ok 20 rfl (by decide)) (lNil_ok) rfl) rfl ⟨rfl, rfl⟩) rfl rfl)
        (bCons_ok (sExpr_ok (xCall_ok (cGlob_ok (by kernel_rfl) (fun _ => by kernel_rfl) (by decide)) (fun _ => by kernel_rfl) (c_check_rights.mono (by decide)) (lCons_ok (dVar_ok 20 rfl (by decide)) (lNil_ok) rfl) rfl ⟨rfl, rfl⟩) rfl rfl)
        (bCons_ok (sExpr_ok (xCall_ok (cGlob_ok (by kernel_rfl) (fun _ => by kernel_rfl) (by decide)) (fun _ => by kernel_rfl) (c_check_ep.mono (by decide)) (lCons_ok (dVar_ok 20 rfl (by decide)) (lNil_ok) rfl) rfl ⟨rfl, rfl⟩) rfl rfl)
        (bNil_ok)))))))
noncomputable def b_IGeometry : SD := bCons (sAss (dVar 23) (gAttr (dVar 3) 23))
  (bCons (sAss (dVar 25) (gAttr (dVar 3) 25))
  (bCons (sAss (dBin oMul (dVar 23) (dVar 25)) (gAttr (dVar 3) 19))
  (bCons (sAss (dBin oSub (dBin oShl (dInt 1) (dBin oMul (dVar 23) (dVar 25))) (dInt 1)) (gAttr (dVar 3) 16))
  (bCons (sAss (dAndV (dVar 24) (dVal (dCmp (kGe) (dVar 25) (dInt 5)))) (gAttr (dVar 3) 24))
  (bCons (sAss (dVar 33) (gAttr (dVar 3) 33))
  (bCons (sAss (dList (lNil)) (gAttr (dVar 3) 34))
  (bCons (sAss (dList (lNil)) (gAttr (dVar 3) 29))
  (bCons (sAss (dList (lNil)) (gAttr (dVar 3) 35))
  (bCons (sAss (dList (lNil)) (gAttr (dVar 3) 36))
  (bCons (sAss (dList (lNil)) (gAttr (dVar 3) 37))
  (bCons (sAss (dList (lCons (dList (lNil)) (lCons (dList (lNil)) (lNil)))) (gAttr (dVar 3) 26))
  (bCons (sAss (dList (lNil)) (gAttr (dVar 3) 32))
  (bCons (sAss (dList (lNil)) (gAttr (dVar 3) 38))
  (bNil))))))))))))))
noncomputable def d_IGeometry : FD := fDef [3, 23, 25, 24, 33] b_IGeometry
theorem c_IGeometry : DenF w base 11 195 d_IGeometry := by
  refine fDef_ok (k := 10) (by k_is) (by kernel_rfl) (by decide) (by decide) ?b ?c ?d rfl rfl rfl
  case b => exact byLen5 fun _ _ _ _ _ => rfl
  case c => decide
  case d =>
    intro L
    exact bCons_ok (sAss_ok (dVar_ok 23 rfl (by decide)) (gAttr_ok 23 rfl (by decide) (dVar_ok 3 rfl (by decide))) rfl rfl rfl)
        (bCons_ok (sAss_ok (dVar_ok 25 rfl (by decide)) (gAttr_ok 25 rfl (by decide) (dVar_ok 3 rfl (by decide))) rfl rfl rfl)
        (bCons_ok (sAss_ok (dBin_ok oMul_ok (dVar_ok 23 rfl (by decide)) (dVar_ok 25 rfl (by decide))) (gAttr_ok 19 rfl (by decide) (dVar_ok 3 rfl (by decide))) rfl rfl rfl)
        (bCons_ok (sAss_ok (dBin_ok oSub_ok (dBin_ok oShl_ok (dInt_ok) (dBin_ok oMul_ok (dVar_ok 23 rfl (by decide)) (dVar_ok 25 rfl (by decide)))) (dInt_ok)) (gAttr_ok 16 rfl (by decide) (dVar_ok 3 rfl (by decide))) rfl rfl rfl)
        (bCons_ok (sAss_ok (dAndV_ok (dVar_ok 24 rfl (by decide)) (dCmp_ok cGe_ok (dVar_ok 25 rfl (by decide)) (dInt_ok) rfl)) (gAttr_ok 24 rfl (by decide) (dVar_ok 3 rfl (by decide))) rfl rfl rfl)
        (bCons_ok (sAss_ok (dVar_ok 33 rfl (by decide)) (gAttr_ok 33 rfl (by decide) (dVar_ok 3 rfl (by decide))) rfl rfl rfl)
        (bCons_ok (sAss_ok (dList_ok (lNil_ok)) (gAttr_ok 34 rfl (by decide) (dVar_ok 3 rfl (by decide))) rfl rfl rfl)
        (bCons_ok (sAss_ok (dList_ok (lNil_ok)) (gAttr_ok 29 rfl (by decide) (dVar_ok 3 rfl (by decide))) rfl rfl rfl)
        (bCons_ok (sAss_ok (dList_ok (lNil_ok)) (gAttr_ok 35 rfl (by decide) (dVar_ok 3 rfl (by decide))) rfl rfl rfl)
        (bCons_ok (sAss_ok (dList_ok (lNil_ok)) (gAttr_ok 36 rfl (by decide) (dVar_ok 3 rfl (by decide))) rfl rfl rfl)
        (bCons_ok (sAss_ok (dList_ok (lNil_ok)) (gAttr_ok 37 rfl (by decide) (dVar_ok 3 rfl (by decide))) rfl rfl rfl)
        (bCons_ok (sAss_ok (dList_ok (lCons_ok (dList_ok (lNil_ok)) (lCons_ok (dList_ok (lNil_ok)) (lNil_ok) rfl) rfl)) (gAttr_ok 26 rfl (by decide) (dVar_ok 3 rfl (by decide))) rfl rfl rfl)
        (bCons_ok (sAss_ok (dList_ok (lNil_ok)) (gAttr_ok 32 rfl (by decide) (dVar_ok 3 rfl (by decide))) rfl rfl rfl)
        (bCons_ok (sAss_ok (dList_ok (lNil_ok)) (gAttr_ok 38 rfl (by decide) (dVar_ok 3 rfl (by decide))) rfl rfl rfl)
        (bNil_ok))))))))))))))
noncomputable def b_is_growing : SD := bCons (sRet (dOrV (dVal (dCmp (kGt) (dItem (dK kSTEP_RANKS) (dVar 39)) (dInt 0))) (dVal (dCmp (kEq) (dVar 39) (dInt 1)))))
  (bNil)
noncomputable def d_is_growing : FD := fDef [39] b_is_growing
theorem c_is_growing : DenF w base 11 209 d_is_growing := by
  refine fDef_ok (k := 10) (by k_is) (by kernel_rfl) (by decide) (by decide) ?b ?c ?d rfl rfl rfl
  case b => exact byLen1 fun _ => rfl
  case c => decide
  case d =>
    intro L
    exact bCons_ok (sRet_ok (dOrV_ok (dCmp_ok cGt_ok (dItem_ok (dK_ok (.ref 181) (by kernel_rfl) (fun _ => by kernel_rfl) (fun _ => by kernel_rfl) (by decide)) (dVar_ok 39 rfl (by decide)) (fun _ _ => rfl)) (dInt_ok) rfl) (dCmp_ok cEq_ok (dVar_ok 39 rfl (by decide)) (dInt_ok) rfl)))
        (bNil_ok)
noncomputable def b_add_masks : SD := bCons (sAss (dBin oSub (dBin oShl (dInt 1) (dAttr (dVar 8) 23)) (dInt 1)) (gName 40))
  (bCons (sAss (dInt 0) (gName 41))
  (bCons (sFor (dRange (lCons (dAttr (dVar 8) 25) (lNil))) (gName 42) (bCons (sExpr (xE (dApp (dAttr (dVar 8) 29) (dBin oShl (dVar 40) (dBin oMul (dVar 42) (dAttr (dVar 8) 23))))))
  (bCons (sAugN oOr 41 (dBin oShl (dInt 1) (dBin oMul (dVar 42) (dAttr (dVar 8) 23))))
  (bNil))))
  (bCons (sFor (dRange (lCons (dAttr (dVar 8) 23) (lNil))) (gName 43) (bCons (sExpr (xE (dApp (dAttr (dVar 8) 34) (dBin oShl (dVar 41) (dVar 43)))))
  (bNil)))
  (bNil))))
noncomputable def d_add_masks : FD := fDef [8] b_add_masks
theorem c_add_masks : DenF w base 11 216 d_add_masks := by
  refine fDef_ok (k := 10) (by k_is) (by kernel_rfl) (by decide) (by decide) ?b ?c ?d rfl rfl rfl
  case b => exact byLen1 fun _ => rfl
  case c => decide
  case d =>
    intro L
    exact bCons_ok (sAss_ok (dBin_ok oSub_ok (dBin_ok oShl_ok (dInt_ok) (dAttr_ok 23 rfl (by decide) (dVar_ok 8 rfl (by decide)) rfl)) (dInt_ok)) (gName_ok 40 rfl (by decide) (.inl (by kernel_rfl))) rfl rfl rfl)
        (bCons_ok (sAss_ok (dInt_ok) (gName_ok 41 rfl (by decide) (.inl (by kernel_rfl))) rfl rfl rfl)
        (bCons_ok (sFor_ok (dRange_ok (cBoot_ok (by kernel_rfl) (fun _ => by kernel_rfl) boot_range (by decide) (by decide)) (lCons_ok (dAttr_ok 25 rfl (by decide) (dVar_ok 8 rfl (by decide)) rfl) (lNil_ok) rfl) rfl ⟨rfl, rfl⟩) (gName_ok 42 rfl (by decide) (.inl (by kernel_rfl))) (bCons_ok (sExpr_ok (xE_ok (dApp_ok (dAttr_ok 29 rfl (by decide) (dVar_ok 8 rfl (by decide)) rfl) (dBin_ok oShl_ok (dVar_ok 40 rfl (by decide)) (dBin_ok oMul_ok (dVar_ok 42 rfl (by decide)) (dAttr_ok 23 rfl (by decide) (dVar_ok 8 rfl (by decide)) rfl))) rfl rfl rfl rfl)) rfl rfl)
        (bCons_ok (sAugN_ok oOr_ok 41 rfl (by decide) (.inl (by kernel_rfl)) (dBin_ok oShl_ok (dInt_ok) (dBin_ok oMul_ok (dVar_ok 42 rfl (by decide)) (dAttr_ok 23 rfl (by decide) (dVar_ok 8 rfl (by decide)) rfl))))
        (bNil_ok))) rfl (fun _ _ => rfl) (fun _ => rfl))
        (bCons_ok (sFor_ok (dRange_ok (cBoot_ok (by kernel_rfl) (fun _ => by kernel_rfl) boot_range (by decide) (by decide)) (lCons_ok (dAttr_ok 23 rfl (by decide) (dVar_ok 8 rfl (by decide)) rfl) (lNil_ok) rfl) rfl ⟨rfl, rfl⟩) (gName_ok 43 rfl (by decide) (.inl (by kernel_rfl))) (bCons_ok (sExpr_ok (xE_ok (dApp_ok (dAttr_ok 34 rfl (by decide) (dVar_ok 8 rfl (by decide)) rfl) (dBin_ok oShl_ok (dVar_ok 41 rfl (by decide)) (dVar_ok 43 rfl (by decide))) rfl rfl rfl rfl)) rfl rfl)
        (bNil_ok)) rfl (fun _ _ => rfl) (fun _ => rfl))
        (bNil_ok))))
noncomputable def b_inner_squares : SD := bCons (sAss (dInt 0) (gName 44))
  (bCons (sIf (dCmp (kGt) (dItem (dK kSTEP_FILES) (dVar 39)) (dInt 0)) (bCons (sAugN oOr 44 (dItem (dAttr (dVar 8) 34) (dBin oSub (dAttr (dVar 8) 23) (dInt 1))))
  (bNil)) (bNil))
  (bCons (sIf (dCmp (kLt) (dItem (dK kSTEP_FILES) (dVar 39)) (dInt 0)) (bCons (sAugN oOr 44 (dItem (dAttr (dVar 8) 34) (dInt 0)))
  (bNil)) (bNil))
  (bCons (sIf (dCmp (kGt) (dItem (dK kSTEP_RANKS) (dVar 39)) (dInt 0)) (bCons (sAugN oOr 44 (dItem (dAttr (dVar 8) 29) (dBin oSub (dAttr (dVar 8) 25) (dInt 1))))
  (bNil)) (bNil))
  (bCons (sIf (dCmp (kLt) (dItem (dK kSTEP_RANKS) (dVar 39)) (dInt 0)) (bCons (sAugN oOr 44 (dItem (dAttr (dVar 8) 29) (dInt 0)))
  (bNil)) (bNil))
  (bCons (sRet (dBin oAnd (dAttr (dVar 8) 16) (dInv (dVar 44))))
  (bNil))))))
noncomputable def d_inner_squares : FD := fDef [8, 39] b_inner_squares
theorem c_inner_squares : DenF w base 11 223 d_inner_squares := by
  refine fDef_ok (k := 10) (by k_is) (by kernel_rfl) (by decide) (by decide) ?b ?c ?d rfl rfl rfl
  case b => exact byLen2 fun _ _ => rfl
  case c => decide
  case d =>
    intro L
    exact bCons_ok (sAss_ok (dInt_ok) (gName_ok 44 rfl (by decide) (.inl (by kernel_rfl))) rfl rfl rfl)
        (bCons_ok (sIf_ok (tCmp_ok cGt_ok (dItem_ok (dK_ok (.ref 180) (by kernel_rfl) (fun _ => by kernel_rfl) (fun _ => by kernel_rfl) (by decide)) (dVar_ok 39 rfl (by decide)) (fun _ _ => rfl)) (dInt_ok) rfl) (bCons_ok (sAugN_ok oOr_ok 44 rfl (by decide) (.inl (by kernel_rfl)) (dItem_ok (dAttr_ok 34 rfl (by decide) (dVar_ok 8 rfl (by decide)) rfl) (dBin_ok oSub_ok (dAttr_ok 23 rfl (by decide) (dVar_ok 8 rfl (by decide)) rfl) (dInt_ok)) (fun _ _ => rfl)))
        (bNil_ok)) (bNil_ok))
        (bCons_ok (sIf_ok (tCmp_ok cLt_ok (dItem_ok (dK_ok (.ref 180) (by kernel_rfl) (fun _ => by kernel_rfl) (fun _ => by kernel_rfl) (by decide)) (dVar_ok 39 rfl (by decide)) (fun _ _ => rfl)) (dInt_ok) rfl) (bCons_ok (sAugN_ok oOr_ok 44 rfl (by decide) (.inl (by kernel_rfl)) (dItem_ok (dAttr_ok 34 rfl (by decide) (dVar_ok 8 rfl (by decide)) rfl) (dInt_ok) (fun _ _ => rfl)))
        (bNil_ok)) (bNil_ok))
        (bCons_ok (sIf_ok (tCmp_ok cGt_ok (dItem_ok (dK_ok (.ref 181) (by kernel_rfl) (fun _ => by kernel_rfl) (fun _ => by kernel_rfl) (by decide)) (dVar_ok 39 rfl (by decide)) (fun _ _ => rfl)) (dInt_ok) rfl) (bCons_ok (sAugN_ok oOr_ok 44 rfl (by decide) (.inl (by kernel_rfl)) (dItem_ok (dAttr_ok 29 rfl (by decide) (dVar_ok 8 rfl (by decide)) rfl) (dBin_ok oSub_ok (dAttr_ok 25 rfl (by decide) (dVar_ok 8 rfl (by decide)) rfl) (dInt_ok)) (fun _ _ => rfl)))
        (bNil_ok)) (bNil_ok))
        (bCons_ok (sIf_ok (tCmp_ok cLt_ok (dItem_ok (dK_ok (.ref 181) (by kernel_rfl) (fun _ => by kernel_rfl) (fun _ => by kernel_rfl) (by decide)) (dVar_ok 39 rfl (by decide)) (fun _ _ => rfl)) (dInt_ok) rfl) (bCons_ok (sAugN_ok oOr_ok 44 rfl (by decide) (.inl (by kernel_rfl)) (dItem_ok (dAttr_ok 29 rfl (by decide) (dVar_ok 8 rfl (by decide)) rfl) (dInt_ok) (fun _ _ => rfl)))
        (bNil_ok)) (bNil_ok))
        (bCons_ok (sRet_ok (dBin_ok oAnd_ok (dAttr_ok 16 rfl (by decide) (dVar_ok 8 rfl (by decide)) rfl) (dInv_ok (dVar_ok 44 rfl (by decide)))))
        (bNil_ok))))))
noncomputable def b_add_rays : SD := bCons (sAss (dRep (dList (lCons (dInt 0) (lNil))) (dAttr (dVar 8) 19)) (gAttr (dVar 8) 36))
  (bCons (sFor (dRange (lCons (dInt 8) (lNil))) (gName 39) (bCons (sAss (dX (xCall d_inner_squares (lCons (dVar 8) (lCons (dVar 39) (lNil))))) (gName 45))
  (bCons (sAss (dBin oAdd (dBin oMul (dItem (dK kSTEP_RANKS) (dVar 39)) (dAttr (dVar 8) 23)) (dItem (dK kSTEP_FILES) (dVar 39))) (gName 46))
  (bCons (sAss (dRep (dList (lCons (dInt 0) (lNil))) (dAttr (dVar 8) 19)) (gName 47))
  (bCons (sAss (dRange (lCons (dAttr (dVar 8) 19) (lNil))) (gName 48))
  (bCons (sIf (dTru (dX (xCall d_is_growing (lCons (dVar 39) (lNil))))) (bCons (sAss (dRange (lCons (dBin oSub (dAttr (dVar 8) 19) (dInt 1)) (lCons (dNeg (dInt 1)) (lCons (dNeg (dInt 1)) (lNil))))) (gName 48))
  (bNil)) (bNil))
  (bCons (sFor (dVar 48) (gName 2) (bCons (sIf (dTru (dBin oAnd (dBin oShr (dVar 45) (dVar 2)) (dInt 1))) (bCons (sAss (dBin oAdd (dVar 2) (dVar 46)) (gName 49))
  (bCons (sAss (dBin oOr (dItem (dVar 47) (dVar 49)) (dBin oShl (dInt 1) (dVar 49))) (gItem (dVar 47) (dVar 2)))
  (bCons (sAugI oOr (dAttr (dVar 8) 36) (dVar 2) (dBin oShl (dInt 1) (dVar 49)))
  (bNil)))) (bNil))
  (bNil)))
  (bCons (sExpr (xE (dApp (dAttr (dVar 8) 35) (dVar 47))))
  (bNil)))))))))
  (bNil))
noncomputable def d_add_rays : FD := fDef [8] b_add_rays
theorem c_add_rays : DenF w base 13 230 d_add_rays := by
  refine fDef_ok (k := 12) (by k_is) (by kernel_rfl) (by decide) (by decide) ?b ?c ?d rfl rfl rfl
  case b => exact byLen1 fun _ => rfl
  case c => decide
  case d =>
    intro L
    exact bCons_ok (sAss_ok (dRep_ok (dList_ok (lCons_ok (dInt_ok) (lNil_ok) rfl)) (dAttr_ok 19 rfl (by decide) (dVar_ok 8 rfl (by decide)) rfl)) (gAttr_ok 36 rfl (by decide) (dVar_ok 8 rfl (by decide))) rfl rfl rfl)
        (bCons_ok (sFor_ok (dRange_ok (cBoot_ok (by kernel_rfl) (fun _ => by kernel_rfl) boot_range (by decide) (by decide)) (lCons_ok (dInt_ok) (lNil_ok) rfl) rfl ⟨rfl, rfl⟩) (gName_ok 39 rfl (by decide) (.inl (by kernel_rfl))) (bCons_ok (sAss_ok (dX_ok (xCall_ok (cGlob_ok (by kernel_rfl) (fun _ => by kernel_rfl) (by decide)) (fun _ => by kernel_rfl) (c_inner_squares.mono (by decide)) (lCons_ok (dVar_ok 8 rfl (by decide)) (lCons_ok (dVar_ok 39 rfl (by decide)) (lNil_ok) rfl) rfl) rfl ⟨rfl, rfl⟩)) (gName_ok 45 rfl (by decide) (.inl (by kernel_rfl))) rfl rfl rfl)
        (bCons_ok (sAss_ok (dBin_ok oAdd_ok (dBin_ok oMul_ok (dItem_ok (dK_ok (.ref 181) (by kernel_rfl) (fun _ => by kernel_rfl) (fun _ => by kernel_rfl) (by decide)) (dVar_ok 39 rfl (by decide)) (fun _ _ => rfl)) (dAttr_ok 23 rfl (by decide) (dVar_ok 8 rfl (by decide)) rfl)) (dItem_ok (dK_ok (.ref 180) (by kernel_rfl) (fun _ => by kernel_rfl) (fun _ => by kernel_rfl) (by decide)) (dVar_ok 39 rfl (by decide)) (fun _ _ => rfl))) (gName_ok 46 rfl (by decide) (.inl (by kernel_rfl))) rfl rfl rfl)
        (bCons_ok (sAss_ok (dRep_ok (dList_ok (lCons_ok (dInt_ok) (lNil_ok) rfl)) (dAttr_ok 19 rfl (by decide) (dVar_ok 8 rfl (by decide)) rfl)) (gName_ok 47 rfl (by decide) (.inl (by kernel_rfl))) rfl rfl rfl)
        (bCons_ok (sAss_ok (dRange_ok (cBoot_ok (by kernel_rfl) (fun _ => by kernel_rfl) boot_range (by decide) (by decide)) (lCons_ok (dAttr_ok 19 rfl (by decide) (dVar_ok 8 rfl (by decide)) rfl) (lNil_ok) rfl) rfl ⟨rfl, rfl⟩) (gName_ok 48 rfl (by decide) (.inl (by kernel_rfl))) rfl rfl rfl)
        (bCons_ok (sIf_ok (tTru_ok (dX_ok (xCall_ok (cGlob_ok (by kernel_rfl) (fun _ => by kernel_rfl) (by decide)) (fun _ => by kernel_rfl) (c_is_growing.mono (by decide)) (lCons_ok (dVar_ok 39 rfl (by decide)) (lNil_ok) rfl) rfl ⟨rfl, rfl⟩)) (fun _ => rfl)) (bCons_ok (sAss_ok (dRange_ok (cBoot_ok (by kernel_rfl) (fun _ => by kernel_rfl) boot_range (by decide) (by decide)) (lCons_ok (dBin_ok oSub_ok (dAttr_ok 19 rfl (by decide) (dVar_ok 8 rfl (by decide)) rfl) (dInt_ok)) (lCons_ok (dNeg_ok (dInt_ok)) (lCons_ok (dNeg_ok (dInt_ok)) (lNil_ok) rfl) rfl) rfl) rfl ⟨rfl, rfl⟩) (gName_ok 48 rfl (by decide) (.inl (by kernel_rfl))) rfl rfl rfl)
        (bNil_ok)) (bNil_ok))
        (bCons_ok (sFor_ok (dVar_ok 48 rfl (by decide)) (gName_ok 2 rfl (by decide) (.inl (by kernel_rfl))) (bCons_ok (sIf_ok (tTru_ok (dBin_ok oAnd_ok (dBin_ok oShr_ok (dVar_ok 45 rfl (by decide)) (dVar_ok 2 rfl (by decide))) (dInt_ok)) (fun _ => rfl)) (bCons_ok (sAss_ok (dBin_ok oAdd_ok (dVar_ok 2 rfl (by decide)) (dVar_ok 46 rfl (by decide))) (gName_ok 49 rfl (by decide) (.inl (by kernel_rfl))) rfl rfl rfl)
        (bCons_ok (sAss_ok (dBin_ok oOr_ok (dItem_ok (dVar_ok 47 rfl (by decide)) (dVar_ok 49 rfl (by decide)) (fun _ _ => rfl)) (dBin_ok oShl_ok (dInt_ok) (dVar_ok 49 rfl (by decide)))) (gItem_ok (dVar_ok 47 rfl (by decide)) (dVar_ok 2 rfl (by decide))) rfl rfl rfl)
        (bCons_ok (sAugI_ok oOr_ok (dAttr_ok 36 rfl (by decide) (dVar_ok 8 rfl (by decide)) rfl) (dVar_ok 2 rfl (by decide)) (dBin_ok oShl_ok (dInt_ok) (dVar_ok 49 rfl (by decide))) (fun _ _ _ => rfl))
        (bNil_ok)))) (bNil_ok))
        (bNil_ok)) rfl (fun _ _ => rfl) (fun _ => rfl))
        (bCons_ok (sExpr_ok (xE_ok (dApp_ok (dAttr_ok 35 rfl (by decide) (dVar_ok 8 rfl (by decide)) rfl) (dVar_ok 47 rfl (by decide)) rfl rfl rfl rfl)) rfl rfl)
        (bNil_ok)))))))) rfl (fun _ _ => rfl) (fun _ => rfl))
        (bNil_ok))
noncomputable def b_add_pawns : SD := bCons (sFor (dRange (lCons (dAttr (dVar 8) 19) (lNil))) (gName 2) (bCons (sExpr (xE (dApp (dItem (dAttr (dVar 8) 26) (dInt 0)) (dBin oAnd (dItem (dAttr (dVar 8) 36) (dVar 2)) (dBin oOr (dItem (dItem (dAttr (dVar 8) 35) (dInt 4)) (dVar 2)) (dItem (dItem (dAttr (dVar 8) 35) (dInt 7)) (dVar 2)))))))
  (bCons (sExpr (xE (dApp (dItem (dAttr (dVar 8) 26) (dInt 1)) (dBin oAnd (dItem (dAttr (dVar 8) 36) (dVar 2)) (dBin oOr (dItem (dItem (dAttr (dVar 8) 35) (dInt 5)) (dVar 2)) (dItem (dItem (dAttr (dVar 8) 35) (dInt 6)) (dVar 2)))))))
  (bNil))))
  (bNil)
noncomputable def d_add_pawns : FD := fDef [8] b_add_pawns
theorem c_add_pawns : DenF w base 11 237 d_add_pawns := by
  refine fDef_ok (k := 10) (by k_is) (by kernel_rfl) (by decide) (by decide) ?b ?c ?d rfl rfl rfl
  case b => exact byLen1 fun _ => rfl
  case c => decide
  case d =>
    intro L
    exact bCons_ok (sFor_ok (dRange_ok (cBoot_ok (by kernel_rfl) (fun _ => by kernel_rfl) boot_range (by decide) (by decide)) (lCons_ok (dAttr_ok 19 rfl (by decide) (dVar_ok 8 rfl (by decide)) rfl) (lNil_ok) rfl) rfl ⟨rfl, rfl⟩) (gName_ok 2 rfl (by decide) (.inl (by kernel_rfl))) (bCons_ok (sExpr_ok (xE_ok (dApp_ok (dItem_ok (dAttr_ok 26 rfl (by decide) (dVar_ok 8 rfl (by decide)) rfl) (dInt_ok) (fun _ _ => rfl)) (dBin_ok oAnd_ok (dItem_ok (dAttr_ok 36 rfl (by decide) (dVar_ok 8 rfl (by decide)) rfl) (dVar_ok 2 rfl (by decide)) (fun _ _ => rfl)) (dBin_ok oOr_ok (dItem_ok (dItem_ok (dAttr_ok 35 rfl (by decide) (dVar_ok 8 rfl (by decide)) rfl) (dInt_ok) (fun _ _ => rfl)) (dVar_ok 2 rfl (by decide)) (fun _ _ => rfl)) (dItem_ok (dItem_ok (dAttr_ok 35 rfl (by decide) (dVar_ok 8 rfl (by decide)) rfl) (dInt_ok) (fun _ _ => rfl)) (dVar_ok 2 rfl (by decide)) (fun _ _ => rfl)))) rfl rfl rfl rfl)) rfl rfl)
        (bCons_ok (sExpr_ok (xE_ok (dApp_ok (dItem_ok (dAttr_ok 26 rfl (by decide) (dVar_ok 8 rfl (by decide)) rfl) (dInt_ok) (fun _ _ => rfl)) (dBin_ok oAnd_ok (dItem_ok (dAttr_ok 36 rfl (by decide) (dVar_ok 8 rfl (by decide)) rfl) (dVar_ok 2 rfl (by decide)) (fun _ _ => rfl)) (dBin_ok oOr_ok (dItem_ok (dItem_ok (dAttr_ok 35 rfl (by decide) (dVar_ok 8 rfl (by decide)) rfl) (dInt_ok) (fun _ _ => rfl)) (dVar_ok 2 rfl (by decide)) (fun _ _ => rfl)) (dItem_ok (dItem_ok (dAttr_ok 35 rfl (by decide) (dVar_ok 8 rfl (by decide)) rfl) (dInt_ok) (fun _ _ => rfl)) (dVar_ok 2 rfl (by decide)) (fun _ _ => rfl)))) rfl rfl rfl rfl)) rfl rfl)
        (bNil_ok))) rfl (fun _ _ => rfl) (fun _ => rfl))
        (bNil_ok)
noncomputable def b_add_knights : SD := bCons (sAss (dAttr (dVar 8) 23) (gName 23))
  (bCons (sAss (dBin oAnd (dAttr (dVar 8) 16) (dInv (dItem (dAttr (dVar 8) 34) (dInt 0)))) (gName 50))
  (bCons (sAss (dBin oAnd (dAttr (dVar 8) 16) (dInv (dItem (dAttr (dVar 8) 34) (dBin oSub (dVar 23) (dInt 1))))) (gName 51))
  (bCons (sAss (dBin oAnd (dVar 50) (dInv (dItem (dAttr (dVar 8) 34) (dInt 1)))) (gName 52))
  (bCons (sAss (dBin oAnd (dVar 51) (dInv (dItem (dAttr (dVar 8) 34) (dBin oSub (dVar 23) (dInt 2))))) (gName 53))
  (bCons (sFor (dRange (lCons (dAttr (dVar 8) 19) (lNil))) (gName 2) (bCons (sAss (dBin oShl (dInt 1) (dVar 2)) (gName 0))
  (bCons (sAss (dBin oOr (dBin oAnd (dBin oShl (dVar 0) (dInt 1)) (dVar 50)) (dBin oAnd (dBin oShr (dVar 0) (dInt 1)) (dVar 51))) (gName 54))
  (bCons (sAss (dBin oOr (dBin oAnd (dBin oShl (dVar 0) (dInt 2)) (dVar 52)) (dBin oAnd (dBin oShr (dVar 0) (dInt 2)) (dVar 53))) (gName 55))
  (bCons (sAss (dBin oOr (dBin oOr (dBin oOr (dBin oShl (dVar 54) (dBin oMul (dInt 2) (dVar 23))) (dBin oShr (dVar 54) (dBin oMul (dInt 2) (dVar 23)))) (dBin oShl (dVar 55) (dVar 23))) (dBin oShr (dVar 55) (dVar 23))) (gName 56))
  (bCons (sExpr (xE (dApp (dAttr (dVar 8) 37) (dBin oAnd (dVar 56) (dAttr (dVar 8) 16)))))
  (bNil)))))))
  (bNil))))))
noncomputable def d_add_knights : FD := fDef [8] b_add_knights
theorem c_add_knights : DenF w base 11 244 d_add_knights := by
  refine fDef_ok (k := 10) (by k_is) (by kernel_rfl) (by decide) (by decide) ?b ?c ?d rfl rfl rfl
  case b => exact byLen1 fun _ => rfl
  case c => decide
  case d =>
    intro L
    exact bCons_ok (sAss_ok (dAttr_ok 23 rfl (by decide) (dVar_ok 8 rfl (by decide)) rfl) (gName_ok 23 rfl (by decide) (.inl (by kernel_rfl))) rfl rfl rfl)
        (bCons_ok (sAss_ok (dBin_ok oAnd_ok (dAttr_ok 16 rfl (by decide) (dVar_ok 8 rfl (by decide)) rfl) (dInv_ok (dItem_ok (dAttr_ok 34 rfl (by decide) (dVar_ok 8 rfl (by decide)) rfl) (dInt_ok) (fun _ _ => rfl)))) (gName_ok 50 rfl (by decide) (.inl (by kernel_rfl))) rfl rfl rfl)
        (bCons_ok (sAss_ok (dBin_ok oAnd_ok (dAttr_ok 16 rfl (by decide) (dVar_ok 8 rfl (by decide)) rfl) (dInv_ok (dItem_ok (dAttr_ok 34 rfl (by decide) (dVar_ok 8 rfl (by decide)) rfl) (dBin_ok oSub_ok (dVar_ok 23 rfl (by decide)) (dInt_ok)) (fun _ _ => rfl)))) (gName_ok 51 rfl (by decide) (.inl (by kernel_rfl))) rfl rfl rfl)
        (bCons_ok (sAss_ok (dBin_ok oAnd_ok (dVar_ok 50 rfl (by decide)) (dInv_ok (dItem_ok (dAttr_ok 34 rfl (by decide) (dVar_ok 8 rfl (by decide)) rfl) (dInt_ok) (fun _ _ => rfl)))) (gName_ok 52 rfl (by decide) (.inl (by kernel_rfl))) rfl rfl rfl)
        (bCons_ok (sAss_ok (dBin_ok oAnd_ok (dVar_ok 51 rfl (by decide)) (dInv_ok (dItem_ok (dAttr_ok 34 rfl (by decide) (dVar_ok 8 rfl (by decide)) rfl) (dBin_ok oSub_ok (dVar_ok 23 rfl (by decide)) (dInt_ok)) (fun _ _ => rfl)))) (gName_ok 53 rfl (by decide) (.inl (by kernel_rfl))) rfl rfl rfl)
        (bCons_ok (sFor_ok (dRange_ok (cBoot_ok (by kernel_rfl) (fun _ => by kernel_rfl) boot_range (by decide) (by decide)) (lCons_ok (dAttr_ok 19 rfl (by decide) (dVar_ok 8 rfl (by decide)) rfl) (lNil_ok) rfl) rfl ⟨rfl, rfl⟩) (gName_ok 2 rfl (by decide) (.inl (by kernel_rfl))) (bCons_ok (sAss_ok (dBin_ok oShl_ok (dInt_ok) (dVar_ok 2 rfl (by decide))) (gName_ok 0 rfl (by decide) (.inl (by kernel_rfl))) rfl rfl rfl)
        (bCons_ok (sAss_ok (dBin_ok oOr_ok (dBin_ok oAnd_ok (dBin_ok oShl_ok (dVar_ok 0 rfl (by decide)) (dInt_ok)) (dVar_ok 50 rfl (by decide))) (dBin_ok oAnd_ok (dBin_ok oShr_ok (dVar_ok 0 rfl (by decide)) (dInt_ok)) (dVar_ok 51 rfl (by decide)))) (gName_ok 54 rfl (by decide) (.inl (by kernel_rfl))) rfl rfl rfl)
        (bCons_ok (sAss_ok (dBin_ok oOr_ok (dBin_ok oAnd_ok (dBin_ok oShl_ok (dVar_ok 0 rfl (by decide)) (dInt_ok)) (dVar_ok 52 rfl (by decide))) (dBin_ok oAnd_ok (dBin_ok oShr_ok (dVar_ok 0 rfl (by decide)) (dInt_ok)) (dVar_ok 53 rfl (by decide)))) (gName_ok 55 rfl (by decide) (.inl (by kernel_rfl))) rfl rfl rfl)
        (bCons_ok (sAss_ok (dBin_ok oOr_ok (dBin_ok oOr_ok (dBin_ok oOr_ok (dBin_ok oShl_ok (dVar_ok 54 rfl (by decide)) (dBin_ok oMul_ok (dInt_ok) (dVar_ok 23 rfl (by decide)))) (dBin_ok oShr_ok (dVar_ok 54 rfl (by decide)) (dBin_ok oMul_ok (dInt_ok) (dVar_ok 23 rfl (by decide))))) (dBin_ok oShl_ok (dVar_ok 55 rfl (by decide)) (dVar_ok 23 rfl (by decide)))) (dBin_ok oShr_ok (dVar_ok 55 rfl (by decide)) (dVar_ok 23 rfl (by decide)))) (gName_ok 56 rfl (by decide) (.inl (by kernel_rfl))) rfl rfl rfl)
        (bCons_ok (sExpr_ok (xE_ok (dApp_ok (dAttr_ok 37 rfl (by decide) (dVar_ok 8 rfl (by decide)) rfl) (dBin_ok oAnd_ok (dVar_ok 56 rfl (by decide)) (dAttr_ok 16 rfl (by decide) (dVar_ok 8 rfl (by decide)) rfl)) rfl rfl rfl rfl)) rfl rfl)
        (bNil_ok)))))) rfl (fun _ _ => rfl) (fun _ => rfl))
        (bNil_ok))))))
noncomputable def b_add_castles : SD := bCons (sAss (dRep (dList (lCons (dInt 0) (lNil))) (dAttr (dVar 8) 19)) (gAttr (dVar 8) 38))
  (bCons (sAss (dBin oDiv (dAttr (dVar 8) 23) (dInt 2)) (gName 57))
  (bCons (sFor (dRange (lCons (dInt 4) (lNil))) (gName 30) (bCons (sAss (dBin oMul (dBin oMul (dBin oShr (dVar 30) (dInt 1)) (dBin oSub (dAttr (dVar 8) 25) (dInt 1))) (dAttr (dVar 8) 23)) (gName 58))
  (bCons (sAss (dBin oSub (dAttr (dVar 8) 23) (dInt 1)) (gName 59))
  (bCons (sAss (dInt 1) (gName 60))
  (bCons (sIf (dTru (dBin oAnd (dVar 30) (dInt 1))) (bCons (sAss (dInt 0) (gName 59))
  (bCons (sAss (dNeg (dInt 1)) (gName 60))
  (bNil))) (bNil))
  (bCons (sAss (dBin oAdd (dVar 57) (dBin oMul (dInt 2) (dVar 60))) (gName 49))
  (bCons (sIf (dAnd (dTru (dAttr (dVar 8) 33)) (dAnd (dCmp (kGt) (dBin oMul (dBin oSub (dVar 59) (dVar 49)) (dVar 60)) (dInt 0)) (dTT))) (bCons (sExpr (xE (dApp (dAttr (dVar 8) 32) (dTup (lCons (dBin oAdd (dVar 58) (dVar 57)) (lCons (dBin oAdd (dVar 58) (dVar 49)) (lCons (dBin oAdd (dVar 58) (dVar 59)) (lCons (dBin oSub (dBin oAdd (dVar 58) (dVar 49)) (dVar 60)) (lNil)))))))))
  (bCons (sAugI oOr (dAttr (dVar 8) 38) (dBin oAdd (dVar 58) (dVar 57)) (dBin oShl (dInt 1) (dVar 30)))
  (bCons (sAugI oOr (dAttr (dVar 8) 38) (dBin oAdd (dVar 58) (dVar 59)) (dBin oShl (dInt 1) (dVar 30)))
  (bNil)))) (bCons (sExpr (xE (dApp (dAttr (dVar 8) 32) (dNone))))
  (bNil)))
  (bNil))))))))
  (bNil)))
noncomputable def d_add_castles : FD := fDef [8] b_add_castles
theorem c_add_castles : DenF w base 11 251 d_add_castles := by
  refine fDef_ok (k := 10) (by k_is) (by kernel_rfl) (by decide) (by decide) ?b ?c ?d rfl rfl rfl
  case b => exact byLen1 fun _ => rfl
  case c => decide
  case d =>
    intro L
    exact bCons_ok (sAss_ok (dRep_ok (dList_ok (lCons_ok (dInt_ok) (lNil_ok) rfl)) (dAttr_ok 19 rfl (by decide) (dVar_ok 8 rfl (by decide)) rfl)) (gAttr_ok 38 rfl (by decide) (dVar_ok 8 rfl (by decide))) rfl rfl rfl)
        (bCons_ok (sAss_ok (dBin_ok oDiv_ok (dAttr_ok 23 rfl (by decide) (dVar_ok 8 rfl (by decide)) rfl) (dInt_ok)) (gName_ok 57 rfl (by decide) (.inl (by kernel_rfl))) rfl rfl rfl)
        (bCons_ok (sFor_ok (dRange_ok (cBoot_ok (by kernel_rfl) (fun _ => by kernel_rfl) boot_range (by decide) (by decide)) (lCons_ok (dInt_ok) (lNil_ok) rfl) rfl ⟨rfl, rfl⟩) (gName_ok 30 rfl (by decide) (.inl (by kernel_rfl))) (bCons_ok (sAss_ok (dBin_ok oMul_ok (dBin_ok oMul_ok (dBin_ok oShr_ok (dVar_ok 30 rfl (by decide)) (dInt_ok)) (dBin_ok oSub_ok (dAttr_ok 25 rfl (by decide) (dVar_ok 8 rfl (by decide)) rfl) (dInt_ok))) (dAttr_ok 23 rfl (by decide) (dVar_ok 8 rfl (by decide)) rfl)) (gName_ok 58 rfl (by decide) (.inl (by kernel_rfl))) rfl rfl rfl)
        (bCons_ok (sAss_ok (dBin_ok oSub_ok (dAttr_ok 23 rfl (by decide) (dVar_ok 8 rfl (by decide)) rfl) (dInt_ok)) (gName_ok 59 rfl (by decide) (.inl (by kernel_rfl))) rfl rfl rfl)
        (bCons_ok (sAss_ok (dInt_ok) (gName_ok 60 rfl (by decide) (.inl (by kernel_rfl))) rfl rfl rfl)
        (bCons_ok (sIf_ok (tTru_ok (dBin_ok oAnd_ok (dVar_ok 30 rfl (by decide)) (dInt_ok)) (fun _ => rfl)) (bCons_ok (sAss_ok (dInt_ok) (gName_ok 59 rfl (by decide) (.inl (by kernel_rfl))) rfl rfl rfl)
        (bCons_ok (sAss_ok (dNeg_ok (dInt_ok)) (gName_ok 60 rfl (by decide) (.inl (by kernel_rfl))) rfl rfl rfl)
        (bNil_ok))) (bNil_ok))
        (bCons_ok (sAss_ok (dBin_ok oAdd_ok (dVar_ok 57 rfl (by decide)) (dBin_ok oMul_ok (dInt_ok) (dVar_ok 60 rfl (by decide)))) (gName_ok 49 rfl (by decide) (.inl (by kernel_rfl))) rfl rfl rfl)
        (bCons_ok (sIf_ok (tBool_ok (aAnd_cons (tTru_ok (dAttr_ok 33 rfl (by decide) (dVar_ok 8 rfl (by decide)) rfl) (fun _ => rfl)) (aAnd_cons (tCmp_ok cGt_ok (dBin_ok oMul_ok (dBin_ok oSub_ok (dVar_ok 59 rfl (by decide)) (dVar_ok 49 rfl (by decide))) (dVar_ok 60 rfl (by decide))) (dInt_ok) rfl) (aAnd_nil)))) (bCons_ok (sExpr_ok (xE_ok (dApp_ok (dAttr_ok 32 rfl (by decide) (dVar_ok 8 rfl (by decide)) rfl) (dTup_ok (lCons_ok (dBin_ok oAdd_ok (dVar_ok 58 rfl (by decide)) (dVar_ok 57 rfl (by decide))) (lCons_ok (dBin_ok oAdd_ok (dVar_ok 58 rfl (by decide)) (dVar_ok 49 rfl (by decide))) (lCons_ok (dBin_ok oAdd_ok (dVar_ok 58 rfl (by decide)) (dVar_ok 59 rfl (by decide))) (lCons_ok (dBin_ok oSub_ok (dBin_ok oAdd_ok (dVar_ok 58 rfl (by decide)) (dVar_ok 49 rfl (by decide))) (dVar_ok 60 rfl (by decide))) (lNil_ok) rfl) rfl) rfl) rfl)) rfl rfl rfl rfl)) rfl rfl)
        (bCons_ok (sAugI_ok oOr_ok (dAttr_ok 38 rfl (by decide) (dVar_ok 8 rfl (by decide)) rfl) (dBin_ok oAdd_ok (dVar_ok 58 rfl (by decide)) (dVar_ok 57 rfl (by decide))) (dBin_ok oShl_ok (dInt_ok) (dVar_ok 30 rfl (by decide))) (fun _ _ _ => rfl))
        (bCons_ok (sAugI_ok oOr_ok (dAttr_ok 38 rfl (by decide) (dVar_ok 8 rfl (by decide)) rfl) (dBin_ok oAdd_ok (dVar_ok 58 rfl (by decide)) (dVar_ok 59 rfl (by decide))) (dBin_ok oShl_ok (dInt_ok) (dVar_ok 30 rfl (by decide))) (fun _ _ _ => rfl))
        (bNil_ok)))) (bCons_ok (sExpr_ok (xE_ok (dApp_ok (dAttr_ok 32 rfl (by decide) (dVar_ok 8 rfl (by decide)) rfl) (dNone_ok) rfl rfl rfl rfl)) rfl rfl)
        (bNil_ok)))
        (bNil_ok))))))) rfl (fun _ _ => rfl) (fun _ => rfl))
        (bNil_ok)))
noncomputable def b_make_geometry : SD := bCons (sIf (dOr (dCmp (kLt) (dVar 23) (dInt 2)) (dOr (dCmp (kGt) (dVar 23) (dInt 8)) (dOr (dCmp (kLt) (dVar 25) (dInt 3)) (dOr (dCmp (kGt) (dVar 25) (dInt 8)) (dFF))))) (bCons (sStuck)
  (bNil)) (bNil))
  (bCons (sAss (dX (xNew 198 d_IGeometry (lCons (dVar 23) (lCons (dVar 25) (lCons (dVar 24) (lCons (dVar 33) (lNil))))))) (gName 8))
  (bCons (sExpr (xCall d_add_masks (lCons (dVar 8) (lNil))))
  (bCons (sExpr (xCall d_add_rays (lCons (dVar 8) (lNil))))
  (bCons (sExpr (xCall d_add_pawns (lCons (dVar 8) (lNil))))
  (bCons (sExpr (xCall d_add_knights (lCons (dVar 8) (lNil))))
  (bCons (sExpr (xCall d_add_castles (lCons (dVar 8) (lNil))))
  (bCons (sRet (dVar 8))
  (bNil))))))))
noncomputable def d_make_geometry : FD := fDef [23, 25, 24, 33] b_make_geometry
theorem c_make_geometry : DenF w base 15 258 d_make_geometry := by
  refine fDef_ok (k := 14) (by k_is) (by kernel_rfl) (by decide) (by decide) ?b ?c ?d rfl rfl rfl
  case b => exact byLen4 fun _ _ _ _ => rfl
  case c => decide
  case d =>
    intro L
    exact bCons_ok (sIf_ok (tBool_ok (aOr_cons (tCmp_ok cLt_ok (dVar_ok 23 rfl (by decide)) (dInt_ok) rfl) (aOr_cons (tCmp_ok cGt_ok (dVar_ok 23 rfl (by decide)) (dInt_ok) rfl) (aOr_cons (tCmp_ok cLt_ok (dVar_ok 25 rfl (by decide)) (dInt_ok) rfl) (aOr_cons (tCmp_ok cGt_ok (dVar_ok 25 rfl (by decide)) (dInt_ok) rfl) (aOr_nil)))))) (bCons_ok (sStuck_ok)
        (bNil_ok)) (bNil_ok))
        (bCons_ok (sAss_ok (dX_ok (xNew_ok (cGlob_ok (by kernel_rfl) (fun _ => by kernel_rfl) (by decide)) (fun _ => by kernel_rfl) (fun _ => by kernel_rfl) (fun _ => by kernel_rfl) (fun _ => by kernel_rfl) (c_IGeometry.mono (by decide)) (lCons_ok (dVar_ok 23 rfl (by decide)) (lCons_ok (dVar_ok 25 rfl (by decide)) (lCons_ok (dVar_ok 24 rfl (by decide)) (lCons_ok (dVar_ok 33 rfl (by decide)) (lNil_ok) rfl) rfl) rfl) rfl) rfl ⟨rfl, rfl⟩)) (gName_ok 8 rfl (by decide) (.inl (by kernel_rfl))) rfl rfl rfl)
        (bCons_ok (sExpr_ok (xCall_ok (cGlob_ok (by kernel_rfl) (fun _ => by kernel_rfl) (by decide)) (fun _ => by kernel_rfl) (c_add_masks.mono (by decide)) (lCons_ok (dVar_ok 8 rfl (by decide)) (lNil_ok) rfl) rfl ⟨rfl, rfl⟩) rfl rfl)
        (bCons_ok (sExpr_ok (xCall_ok (cGlob_ok (by kernel_rfl) (fun _ => by kernel_rfl) (by decide)) (fun _ => by kernel_rfl) (c_add_rays.mono (by decide)) (lCons_ok (dVar_ok 8 rfl (by decide)) (lNil_ok) rfl) rfl ⟨rfl, rfl⟩) rfl rfl)
        (bCons_ok (sExpr_ok (xCall_ok (cGlob_ok (by kernel_rfl) (fun _ => by kernel_rfl) (by decide)) (fun _ => by kernel_rfl) (c_add_pawns.mono (by decide)) (lCons_ok (dVar_ok 8 rfl (by decide)) (lNil_ok) rfl) rfl ⟨rfl, rfl⟩) rfl rfl)
        (bCons_ok (sExpr_ok (xCall_ok (cGlob_ok (by kernel_rfl) (fun _ => by kernel_rfl) (by decide)) (fun _ => by kernel_rfl) (c_add_knights.mono (by decide)) (lCons_ok (dVar_ok 8 rfl (by decide)) (lNil_ok) rfl) rfl ⟨rfl, rfl⟩) rfl rfl)
        (bCons_ok (sExpr_ok (xCall_ok (cGlob_ok (by kernel_rfl) (fun _ => by kernel_rfl) (by decide)) (fun _ => by kernel_rfl) (c_add_castles.mono (by decide)) (lCons_ok (dVar_ok 8 rfl (by decide)) (lNil_ok) rfl) rfl ⟨rfl, rfl⟩) rfl rfl)
        (bCons_ok (sRet_ok (dVar_ok 8 rfl (by decide)))
        (bNil_ok))))))))
noncomputable def b_IZobrist : SD := bCons (sAss (dVar 61) (gAttr (dVar 3) 61))
  (bCons (sAss (dVar 14) (gAttr (dVar 3) 14))
  (bCons (sAss (dVar 13) (gAttr (dVar 3) 13))
  (bCons (sAss (dVar 5) (gAttr (dVar 3) 5))
  (bNil))))
noncomputable def d_IZobrist : FD := fDef [3, 61, 14, 13, 5] b_IZobrist
theorem c_IZobrist : DenF w base 11 272 d_IZobrist := by
  refine fDef_ok (k := 10) (by k_is) (by kernel_rfl) (by decide) (by decide) ?b ?c ?d rfl rfl rfl
  case b => exact byLen5 fun _ _ _ _ _ => rfl
  case c => decide
  case d =>
    intro L
    exact bCons_ok (sAss_ok (dVar_ok 61 rfl (by decide)) (gAttr_ok 61 rfl (by decide) (dVar_ok 3 rfl (by decide))) rfl rfl rfl)
        (bCons_ok (sAss_ok (dVar_ok 14 rfl (by decide)) (gAttr_ok 14 rfl (by decide) (dVar_ok 3 rfl (by decide))) rfl rfl rfl)
        (bCons_ok (sAss_ok (dVar_ok 13 rfl (by decide)) (gAttr_ok 13 rfl (by decide) (dVar_ok 3 rfl (by decide))) rfl rfl rfl)
        (bCons_ok (sAss_ok (dVar_ok 5 rfl (by decide)) (gAttr_ok 5 rfl (by decide) (dVar_ok 3 rfl (by decide))) rfl rfl rfl)
        (bNil_ok))))
noncomputable def b__law_lot : SD := bCons (sAugK oAdd (dVar 62) 85 (dInt 1))
  (bCons (sAss (dKey (dVar 62) 63) (gName 63))
  (bCons (sRet (dIf (dCmp (kLe) (dKey (dVar 62) 85) (dLen (dVar 63))) (dBin oMod (dItem (dVar 63) (dBin oSub (dKey (dVar 62) 85) (dInt 1))) (dVar 12)) (dInt 0)))
  (bNil)))
noncomputable def d__law_lot : FD := fDef [62, 12] b__law_lot
theorem c__law_lot : DenF w base 11 291 d__law_lot := by
  refine fDef_ok (k := 10) (by k_is) (by kernel_rfl) (by decide) (by decide) ?b ?c ?d rfl rfl rfl
  case b => exact byLen2 fun _ _ => rfl
  case c => decide
  case d =>
    intro L
    exact bCons_ok (sAugK_ok oAdd_ok 85 rfl (dVar_ok 62 rfl (by decide)) (dInt_ok))
        (bCons_ok (sAss_ok (dKey_ok 63 rfl (dVar_ok 62 rfl (by decide))) (gName_ok 63 rfl (by decide) (.inl (by kernel_rfl))) rfl rfl rfl)
        (bCons_ok (sRet_ok (dIf_ok (tCmp_ok cLe_ok (dKey_ok 85 rfl (dVar_ok 62 rfl (by decide))) (dLen_ok (cBoot_ok (by kernel_rfl) (fun _ => by kernel_rfl) boot_len (by decide) (by decide)) (dVar_ok 63 rfl (by decide)) rfl ⟨rfl, rfl⟩) rfl) (dBin_ok oMod_ok (dItem_ok (dVar_ok 63 rfl (by decide)) (dBin_ok oSub_ok (dKey_ok 85 rfl (dVar_ok 62 rfl (by decide))) (dInt_ok)) (fun _ _ => rfl)) (dVar_ok 12 rfl (by decide))) (dInt_ok)))
        (bNil_ok)))
noncomputable def b__law_men : SD := bCons (sAss (dBin oMul (dVar 23) (dVar 25)) (gName 19))
  (bCons (sAss (dRep (dList (lCons (dInt 0) (lNil))) (dVar 19)) (gName 65))
  (bCons (sAss (dTup (lCons (dInt 6) (lCons (dInt 14) (lNil)))) (gTup (gsCons (gItem (dVar 65) (dBin oDiv (dVar 23) (dInt 2))) (gsCons (gItem (dVar 65) (dBin oAdd (dBin oSub (dVar 19) (dVar 23)) (dBin oDiv (dVar 23) (dInt 2)))) (gsNil)))))
  (bCons (sIf (dCmp (kEq) (dX (xCall d__law_lot (lCons (dVar 62) (lCons (dInt 2) (lNil))))) (dInt 0)) (bCons (sFor (dTup (lCons (dInt 0) (lCons (dBin oSub (dVar 23) (dInt 1)) (lNil)))) (gName 59) (bCons (sAss (dTup (lCons (dInt 4) (lCons (dInt 12) (lNil)))) (gTup (gsCons (gItem (dVar 65) (dVar 59)) (gsCons (gItem (dVar 65) (dBin oAdd (dBin oSub (dVar 19) (dVar 23)) (dVar 59))) (gsNil)))))
  (bNil)))
  (bNil)) (bNil))
  (bCons (sIf (dCmp (kEq) (dVar 23) (dInt 4)) (bCons (sAss (dIf (dCmp (kEq) (dVar 64) (dInt 1)) (dInt 12) (dInt 4)) (gName 40))
  (bCons (sAss (dIf (dCmp (kEq) (dVar 64) (dInt 1)) (dTup (lCons (dInt 1) (lCons (dInt 9) (lNil)))) (dTup (lCons (dInt 9) (lCons (dInt 1) (lNil))))) (gTup (gsCons (gItem (dVar 65) (dVar 40)) (gsCons (gItem (dVar 65) (dBin oAdd (dVar 40) (dInt 1))) (gsNil)))))
  (bNil))) (bNil))
  (bCons (sFor (dRange (lCons (dX (xCall d__law_lot (lCons (dVar 62) (lCons (dInt 5) (lNil))))) (lNil))) (gName 66) (bCons (sAss (dX (xCall d__law_lot (lCons (dVar 62) (lCons (dVar 19) (lNil))))) (gName 67))
  (bCons (sAss (dItem (dK k_law_known) (dX (xCall d__law_lot (lCons (dVar 62) (lCons (dInt 13) (lNil)))))) (gItem (dVar 65) (dVar 67)))
  (bNil))))
  (bCons (sRet (dVar 65))
  (bNil)))))))
noncomputable def d__law_men : FD := fDef [62, 23, 25, 64] b__law_men
theorem c__law_men : DenF w base 13 298 d__law_men := by
  refine fDef_ok (k := 12) (by k_is) (by kernel_rfl) (by decide) (by decide) ?b ?c ?d rfl rfl rfl
  case b => exact byLen4 fun _ _ _ _ => rfl
  case c => decide
  case d =>
    intro L
    exact bCons_ok (sAss_ok (dBin_ok oMul_ok (dVar_ok 23 rfl (by decide)) (dVar_ok 25 rfl (by decide))) (gName_ok 19 rfl (by decide) (.inl (by kernel_rfl))) rfl rfl rfl)
        (bCons_ok (sAss_ok (dRep_ok (dList_ok (lCons_ok (dInt_ok) (lNil_ok) rfl)) (dVar_ok 19 rfl (by decide))) (gName_ok 65 rfl (by decide) (.inl (by kernel_rfl))) rfl rfl rfl)
        (bCons_ok (sAss_ok (dTup_ok (lCons_ok (dInt_ok) (lCons_ok (dInt_ok) (lNil_ok) rfl) rfl)) (gTup_ok (gsCons_ok (gItem_ok (dVar_ok 65 rfl (by decide)) (dBin_ok oDiv_ok (dVar_ok 23 rfl (by decide)) (dInt_ok))) (gsCons_ok (gItem_ok (dVar_ok 65 rfl (by decide)) (dBin_ok oAdd_ok (dBin_ok oSub_ok (dVar_ok 19 rfl (by decide)) (dVar_ok 23 rfl (by decide))) (dBin_ok oDiv_ok (dVar_ok 23 rfl (by decide)) (dInt_ok)))) (gsNil_ok))) rfl rfl (gs_lenS (gs_lenS (gs_len0)))) rfl rfl rfl)
        (bCons_ok (sIf_ok (tCmp_ok cEq_ok (dX_ok (xCall_ok (cGlob_ok (by kernel_rfl) (fun _ => by kernel_rfl) (by decide)) (fun _ => by kernel_rfl) (c__law_lot.mono (by decide)) (lCons_ok (dVar_ok 62 rfl (by decide)) (lCons_ok (dInt_ok) (lNil_ok) rfl) rfl) rfl ⟨rfl, rfl⟩)) (dInt_ok) rfl) (bCons_ok (sFor_ok (dTup_ok (lCons_ok (dInt_ok) (lCons_ok (dBin_ok oSub_ok (dVar_ok 23 rfl (by decide)) (dInt_ok)) (lNil_ok) rfl) rfl)) (gName_ok 59 rfl (by decide) (.inl (by kernel_rfl))) (bCons_ok (sAss_ok (dTup_ok (lCons_ok (dInt_ok) (lCons_ok (dInt_ok) (lNil_ok) rfl) rfl)) (gTup_ok (gsCons_ok (gItem_ok (dVar_ok 65 rfl (by decide)) (dVar_ok 59 rfl (by decide))) (gsCons_ok (gItem_ok (dVar_ok 65 rfl (by decide)) (dBin_ok oAdd_ok (dBin_ok oSub_ok (dVar_ok 19 rfl (by decide)) (dVar_ok 23 rfl (by decide))) (dVar_ok 59 rfl (by decide)))) (gsNil_ok))) rfl rfl (gs_lenS (gs_lenS (gs_len0)))) rfl rfl rfl)
        (bNil_ok)) rfl (fun _ _ => rfl) (fun _ => rfl))
        (bNil_ok)) (bNil_ok))
        (bCons_ok (sIf_ok (tCmp_ok cEq_ok (dVar_ok 23 rfl (by decide)) (dInt_ok) rfl) (bCons_ok (sAss_ok (dIf_ok (tCmp_ok cEq_ok (dVar_ok 64 rfl (by decide)) (dInt_ok) rfl) (dInt_ok) (dInt_ok)) (gName_ok 40 rfl (by decide) (.inl (by kernel_rfl))) rfl rfl rfl)
        (bCons_ok (sAss_ok (dIf_ok (tCmp_ok cEq_ok (dVar_ok 64 rfl (by decide)) (dInt_ok) rfl) (dTup_ok (lCons_ok (dInt_ok) (lCons_ok (dInt_ok) (lNil_ok) rfl) rfl)) (dTup_ok (lCons_ok (dInt_ok) (lCons_ok (dInt_ok) (lNil_ok) rfl) rfl))) (gTup_ok (gsCons_ok (gItem_ok (dVar_ok 65 rfl (by decide)) (dVar_ok 40 rfl (by decide))) (gsCons_ok (gItem_ok (dVar_ok 65 rfl (by decide)) (dBin_ok oAdd_ok (dVar_ok 40 rfl (by decide)) (dInt_ok))) (gsNil_ok))) rfl rfl (gs_lenS (gs_lenS (gs_len0)))) rfl rfl rfl)
        (bNil_ok))) (bNil_ok))
        (bCons_ok (sFor_ok (dRange_ok (cBoot_ok (by kernel_rfl) (fun _ => by kernel_rfl) boot_range (by decide) (by decide)) (lCons_ok (dX_ok (xCall_ok (cGlob_ok (by kernel_rfl) (fun _ => by kernel_rfl) (by decide)) (fun _ => by kernel_rfl) (c__law_lot.mono (by decide)) (lCons_ok (dVar_ok 62 rfl (by decide)) (lCons_ok (dInt_ok) (lNil_ok) rfl) rfl) rfl ⟨rfl, rfl⟩)) (lNil_ok) rfl) rfl ⟨rfl, rfl⟩) (gName_ok 66 rfl (by decide) (.inl (by kernel_rfl))) (bCons_ok (sAss_ok (dX_ok (xCall_ok (cGlob_ok (by kernel_rfl) (fun _ => by kernel_rfl) (by decide)) (fun _ => by kernel_rfl) (c__law_lot.mono (by decide)) (lCons_ok (dVar_ok 62 rfl (by decide)) (lCons_ok (dVar_ok 19 rfl (by decide)) (lNil_ok) rfl) rfl) rfl ⟨rfl, rfl⟩)) (gName_ok 67 rfl (by decide) (.inl (by kernel_rfl))) rfl rfl rfl)
        (bCons_ok (sAss_ok (dItem_ok (dK_ok (.ref 284) (by kernel_rfl) (fun _ => by kernel_rfl) (fun _ => by kernel_rfl) (by decide)) (dX_ok (xCall_ok (cGlob_ok (by kernel_rfl) (fun _ => by kernel_rfl) (by decide)) (fun _ => by kernel_rfl) (c__law_lot.mono (by decide)) (lCons_ok (dVar_ok 62 rfl (by decide)) (lCons_ok (dInt_ok) (lNil_ok) rfl) rfl) rfl ⟨rfl, rfl⟩)) (fun _ _ => rfl)) (gItem_ok (dVar_ok 65 rfl (by decide)) (dVar_ok 67 rfl (by decide))) rfl rfl rfl)
        (bNil_ok))) rfl (fun _ _ => rfl) (fun _ => rfl))
        (bCons_ok (sRet_ok (dVar_ok 65 rfl (by decide)))
        (bNil_ok)))))))
noncomputable def b__law_bent : SD := bCons (sAss (dX (xCall d__law_lot (lCons (dVar 62) (lCons (dInt 10) (lNil))))) (gName 60))
  (bCons (sIf (dCmp (kEq) (dVar 60) (dInt 0)) (bCons (sAss (dItem (dTup (lCons (dInt 2) (lCons (dNeg (dInt 1)) (lNil)))) (dX (xCall d__law_lot (lCons (dVar 62) (lCons (dInt 2) (lNil)))))) (gAttr (dVar 20) 5))
  (bNil)) (bCons (sIf (dCmp (kEq) (dVar 60) (dInt 1)) (bCons (sAss (dBin oSub (dNeg (dInt 1)) (dX (xCall d__law_lot (lCons (dVar 62) (lCons (dInt 3) (lNil)))))) (gAttr (dVar 20) 15))
  (bNil)) (bCons (sIf (dCmp (kEq) (dVar 60) (dInt 2)) (bCons (sAss (dBin oSub (dInt 0) (dX (xCall d__law_lot (lCons (dVar 62) (lCons (dInt 3) (lNil)))))) (gAttr (dVar 20) 16))
  (bNil)) (bCons (sIf (dCmp (kEq) (dVar 60) (dInt 3)) (bCons (sExpr (xE (dApp (dItem (dTup (lCons (dAttr (dVar 20) 10) (lCons (dAttr (dVar 20) 11) (lCons (dAttr (dVar 20) 12) (lNil))))) (dX (xCall d__law_lot (lCons (dVar 62) (lCons (dInt 3) (lNil)))))) (dInt 0))))
  (bNil)) (bCons (sIf (dCmp (kEq) (dVar 60) (dInt 4)) (bCons (sAss (dItem (dTup (lCons (dInt 7) (lCons (dInt 8) (lCons (dInt 15) (lCons (dNeg (dInt 1)) (lCons (dInt 16) (lNil))))))) (dX (xCall d__law_lot (lCons (dVar 62) (lCons (dInt 5) (lNil)))))) (gItem (dAttr (dVar 20) 10) (dX (xCall d__law_lot (lCons (dVar 62) (lCons (dVar 19) (lNil)))))))
  (bNil)) (bCons (sIf (dCmp (kEq) (dVar 60) (dInt 5)) (bCons (sAugI oXor (dAttr (dVar 20) 11) (dX (xCall d__law_lot (lCons (dVar 62) (lCons (dInt 7) (lNil))))) (dBin oShl (dInt 1) (dX (xCall d__law_lot (lCons (dVar 62) (lCons (dBin oAdd (dVar 19) (dInt 1)) (lNil)))))))
  (bNil)) (bCons (sIf (dCmp (kEq) (dVar 60) (dInt 6)) (bCons (sAugI oXor (dAttr (dVar 20) 12) (dX (xCall d__law_lot (lCons (dVar 62) (lCons (dInt 2) (lNil))))) (dBin oShl (dInt 1) (dX (xCall d__law_lot (lCons (dVar 62) (lCons (dBin oAdd (dVar 19) (dInt 1)) (lNil)))))))
  (bNil)) (bCons (sIf (dCmp (kEq) (dVar 60) (dInt 7)) (bCons (sAss (dNeg (dInt 1)) (gItem (dAttr (dVar 20) 11) (dX (xCall d__law_lot (lCons (dVar 62) (lCons (dInt 7) (lNil)))))))
  (bNil)) (bCons (sIf (dCmp (kEq) (dVar 60) (dInt 8)) (bCons (sAss (dBin oSub (dX (xCall d__law_lot (lCons (dVar 62) (lCons (dInt 18) (lNil))))) (dInt 1)) (gAttr (dVar 20) 13))
  (bNil)) (bCons (sAss (dBin oSub (dX (xCall d__law_lot (lCons (dVar 62) (lCons (dBin oAdd (dVar 19) (dInt 4)) (lNil))))) (dInt 2)) (gAttr (dVar 20) 14))
  (bNil)))
  (bNil)))
  (bNil)))
  (bNil)))
  (bNil)))
  (bNil)))
  (bNil)))
  (bNil)))
  (bNil)))
  (bNil))
noncomputable def d__law_bent : FD := fDef [62, 20, 19] b__law_bent
theorem c__law_bent : DenF w base 13 305 d__law_bent := by
  refine fDef_ok (k := 12) (by k_is) (by kernel_rfl) (by decide) (by decide) ?b ?c ?d rfl rfl rfl
  case b => exact byLen3 fun _ _ _ => rfl
  case c => decide
  case d =>
    intro L
    exact bCons_ok (sAss_ok (dX_ok (xCall_ok (cGlob_ok (by kernel_rfl) (fun _ => by kernel_rfl) (by decide)) (fun _ => by kernel_rfl) (c__law_lot.mono (by decide)) (lCons_ok (dVar_ok 62 rfl (by decide)) (lCons_ok (dInt_ok) (lNil_ok) rfl) rfl) rfl ⟨rfl, rfl⟩)) (gName_ok 60 rfl (by decide) (.inl (by kernel_rfl))) rfl rfl rfl)
        (bCons_ok (sIf_ok (tCmp_ok cEq_ok (dVar_ok 60 rfl (by decide)) (dInt_ok) rfl) (bCons_ok (sAss_ok (dItem_ok (dTup_ok (lCons_ok (dInt_ok) (lCons_ok (dNeg_ok (dInt_ok)) (lNil_ok) rfl) rfl)) (dX_ok (xCall_ok (cGlob_ok (by kernel_rfl) (fun _ => by kernel_rfl) (by decide)) (fun _ => by kernel_rfl) (c__law_lot.mono (by decide)) (lCons_ok (dVar_ok 62 rfl (by decide)) (lCons_ok (dInt_ok) (lNil_ok) rfl) rfl) rfl ⟨rfl, rfl⟩)) (fun _ _ => rfl)) (gAttr_ok 5 rfl (by decide) (dVar_ok 20 rfl (by decide))) rfl rfl rfl)
        (bNil_ok)) (bCons_ok (sIf_ok (tCmp_ok cEq_ok (dVar_ok 60 rfl (by decide)) (dInt_ok) rfl) (bCons_ok (sAss_ok (dBin_ok oSub_ok (dNeg_ok (dInt_ok)) (dX_ok (xCall_ok (cGlob_ok (by kernel_rfl) (fun _ => by kernel_rfl) (by decide)) (fun _ => by kernel_rfl) (c__law_lot.mono (by decide)) (lCons_ok (dVar_ok 62 rfl (by decide)) (lCons_ok (dInt_ok) (lNil_ok) rfl) rfl) rfl ⟨rfl, rfl⟩))) (gAttr_ok 15 rfl (by decide) (dVar_ok 20 rfl (by decide))) rfl rfl rfl)
        (bNil_ok)) (bCons_ok (sIf_ok (tCmp_ok cEq_ok (dVar_ok 60 rfl (by decide)) (dInt_ok) rfl) (bCons_ok (sAss_ok (dBin_ok oSub_ok (dInt_ok) (dX_ok (xCall_ok (cGlob_ok (by kernel_rfl) (fun _ => by kernel_rfl) (by decide)) (fun _ => by kernel_rfl) (c__law_lot.mono (by decide)) (lCons_ok (dVar_ok 62 rfl (by decide)) (lCons_ok (dInt_ok) (lNil_ok) rfl) rfl) rfl ⟨rfl, rfl⟩))) (gAttr_ok 16 rfl (by decide) (dVar_ok 20 rfl (by decide))) rfl rfl rfl)
        (bNil_ok)) (bCons_ok (sIf_ok (tCmp_ok cEq_ok (dVar_ok 60 rfl (by decide)) (dInt_ok) rfl) (bCons_ok (sExpr_ok (xE_ok (dApp_ok (dItem_ok (dTup_ok (lCons_ok (dAttr_ok 10 rfl (by decide) (dVar_ok 20 rfl (by decide)) rfl) (lCons_ok (dAttr_ok 11 rfl (by decide) (dVar_ok 20 rfl (by decide)) rfl) (lCons_ok (dAttr_ok 12 rfl (by decide) (dVar_ok 20 rfl (by decide)) rfl) (lNil_ok) rfl) rfl) rfl)) (dX_ok (xCall_ok (cGlob_ok (by kernel_rfl) (fun _ => by kernel_rfl) (by decide)) (fun _ => by kernel_rfl) (c__law_lot.mono (by decide)) (lCons_ok (dVar_ok 62 rfl (by decide)) (lCons_ok (dInt_ok) (lNil_ok) rfl) rfl) rfl ⟨rfl, rfl⟩)) (fun _ _ => rfl)) (dInt_ok) rfl rfl rfl rfl)) rfl rfl)
        (bNil_ok)) (bCons_ok (sIf_ok (tCmp_ok cEq_ok (dVar_ok 60 rfl (by decide)) (dInt_ok) rfl) (bCons_ok (sAss_ok (dItem_ok (dTup_ok (lCons_ok (dInt_ok) (lCons_ok (dInt_ok) (lCons_ok (dInt_ok) (lCons_ok (dNeg_ok (dInt_ok)) (lCons_ok (dInt_ok) (lNil_ok) rfl) rfl) rfl) rfl) rfl)) (dX_ok (xCall_ok (cGlob_ok (by kernel_rfl) (fun _ => by kernel_rfl) (by decide)) (fun _ => by kernel_rfl) (c__law_lot.mono (by decide)) (lCons_ok (dVar_ok 62 rfl (by decide)) (lCons_ok (dInt_ok) (lNil_ok) rfl) rfl) rfl ⟨rfl, rfl⟩)) (fun _ _ => rfl)) (gItem_ok (dAttr_ok 10 rfl (by decide) (dVar_ok 20 rfl (by decide)) rfl) (dX_ok (xCall_ok (cGlob_ok (by kernel_rfl) (fun _ => by kernel_rfl) (by decide)) (fun _ => by kernel_rfl) (c__law_lot.mono (by decide)) (lCons_ok (dVar_ok 62 rfl (by decide)) (lCons_ok (dVar_ok 19 rfl (by decide)) (lNil_ok) rfl) rfl) rfl ⟨rfl, rfl⟩))) rfl rfl rfl)
        (bNil_ok)) (bCons_ok (sIf_ok (tCmp_ok cEq_ok (dVar_ok 60 rfl (by decide)) (dInt_ok) rfl) (bCons_ok (sAugI_ok oXor_ok (dAttr_ok 11 rfl (by decide) (dVar_ok 20 rfl (by decide)) rfl) (dX_ok (xCall_ok (cGlob_ok (by kernel_rfl) (fun _ => by kernel_rfl) (by decide)) (fun _ => by kernel_rfl) (c__law_lot.mono (by decide)) (lCons_ok (dVar_ok 62 rfl (by decide)) (lCons_ok (dInt_ok) (lNil_ok) rfl) rfl) rfl ⟨rfl, rfl⟩)) (dBin_ok oShl_ok (dInt_ok) (dX_ok (xCall_ok (cGlob_ok (by kernel_rfl) (fun _ => by kernel_rfl) (by decide)) (fun _ => by kernel_rfl) (c__law_lot.mono (by decide)) (lCons_ok (dVar_ok 62 rfl (by decide)) (lCons_ok (dBin_ok oAdd_ok (dVar_ok 19 rfl (by decide)) (dInt_ok)) (lNil_ok) rfl) rfl) rfl ⟨rfl, rfl⟩))) (fun _ _ _ => rfl))
        (bNil_ok)) (bCons_ok (sIf_ok (tCmp_ok cEq_ok (dVar_ok 60 rfl (by decide)) (dInt_ok) rfl) (bCons_ok (sAugI_ok oXor_ok (dAttr_ok 12 rfl (by decide) (dVar_ok 20 rfl (by decide)) rfl) (dX_ok (xCall_ok (cGlob_ok (by kernel_rfl) (fun _ => by kernel_rfl) (by decide)) (fun _ => by kernel_rfl) (c__law_lot.mono (by decide)) (lCons_ok (dVar_ok 62 rfl (by decide)) (lCons_ok (dInt_ok) (lNil_ok) rfl) rfl) rfl ⟨rfl, rfl⟩)) (dBin_ok oShl_ok (dInt_ok) (dX_ok (xCall_ok (cGlob_ok (by kernel_rfl) (fun _ => by kernel_rfl) (by decide)) (fun _ => by kernel_rfl) (c__law_lot.mono (by decide)) (lCons_ok (dVar_ok 62 rfl (by decide)) (lCons_ok (dBin_ok oAdd_ok (dVar_ok 19 rfl (by decide)) (dInt_ok)) (lNil_ok) rfl) rfl) rfl ⟨rfl, rfl⟩))) (fun _ _ _ => rfl))
        (bNil_ok)) (bCons_ok (sIf_ok (tCmp_ok cEq_ok (dVar_ok 60 rfl (by decide)) (dInt_ok) rfl) (bCons_ok (sAss_ok (dNeg_ok (dInt_ok)) (gItem_ok (dAttr_ok 11 rfl (by decide) (dVar_ok 20 rfl (by decide)) rfl) (dX_ok (xCall_ok (cGlob_ok (by kernel_rfl) (fun _ => by kernel_rfl) (by decide)) (fun _ => by kernel_rfl) (c__law_lot.mono (by decide)) (lCons_ok (dVar_ok 62 rfl (by decide)) (lCons_ok (dInt_ok) (lNil_ok) rfl) rfl) rfl ⟨rfl, rfl⟩))) rfl rfl rfl)
        (bNil_ok)) (bCons_ok (sIf_ok (tCmp_ok cEq_ok (dVar_ok 60 rfl (by decide)) (dInt_ok) rfl) (bCons_ok (sAss_ok (dBin_ok oSub_ok (dX_ok (xCall_ok (cGlob_ok (by kernel_rfl) (fun _ => by kernel_rfl) (by decide)) (fun _ => by kernel_rfl) (c__law_lot.mono (by decide)) (lCons_ok (dVar_ok 62 rfl (by decide)) (lCons_ok (dInt_ok) (lNil_ok) rfl) rfl) rfl ⟨rfl, rfl⟩)) (dInt_ok)) (gAttr_ok 13 rfl (by decide) (dVar_ok 20 rfl (by decide))) rfl rfl rfl)
        (bNil_ok)) (bCons_ok (sAss_ok (dBin_ok oSub_ok (dX_ok (xCall_ok (cGlob_ok (by kernel_rfl) (fun _ => by kernel_rfl) (by decide)) (fun _ => by kernel_rfl) (c__law_lot.mono (by decide)) (lCons_ok (dVar_ok 62 rfl (by decide)) (lCons_ok (dBin_ok oAdd_ok (dVar_ok 19 rfl (by decide)) (dInt_ok)) (lNil_ok) rfl) rfl) rfl ⟨rfl, rfl⟩)) (dInt_ok)) (gAttr_ok 14 rfl (by decide) (dVar_ok 20 rfl (by decide))) rfl rfl rfl)
        (bNil_ok)))
        (bNil_ok)))
        (bNil_ok)))
        (bNil_ok)))
        (bNil_ok)))
        (bNil_ok)))
        (bNil_ok)))
        (bNil_ok)))
        (bNil_ok)))
        (bNil_ok))
noncomputable def b__law_lies : SD := bCons (sAss (dItem (dAttr (dVar 20) 10) (dVar 67)) (gName 68))
  (bCons (sAss (dComp [67] 10 (dAttr (dVar 20) 11) (dTT) (dBin oMod (dBin oShr (dVar 10) (dVar 67)) (dInt 2))) (gName 11))
  (bCons (sAss (dComp [67] 10 (dAttr (dVar 20) 12) (dTT) (dBin oMod (dBin oShr (dVar 10) (dVar 67)) (dInt 2))) (gName 12))
  (bCons (sAss (dComp [68] 6 (dRange (lCons (dInt 7) (lNil))) (dTT) (dIf (dAnd (dCmp (kNe) (dVar 68) (dInt 0)) (dAnd (dCmp (kEq) (dVar 6) (dBin oMod (dVar 68) (dInt 8))) (dTT))) (dInt 1) (dInt 0))) (gName 69))
  (bCons (sRet (dOrV (dVal (dNot (dEqL (dVar 11) (dVar 69)))) (dVal (dNot (dEqL (dVar 12) (dComp [68] 64 (dTup (lCons (dInt 0) (lCons (dInt 1) (lNil)))) (dTT) (dIf (dAnd (dCmp (kNe) (dVar 68) (dInt 0)) (dAnd (dCmp (kEq) (dBin oDiv (dVar 68) (dInt 8)) (dVar 64)) (dTT))) (dInt 1) (dInt 0))))))))
  (bNil)))))
noncomputable def d__law_lies : FD := fDef [20, 67] b__law_lies
theorem c__law_lies : DenF w base 11 310 d__law_lies := by
  refine fDef_ok (k := 10) (by k_is) (by kernel_rfl) (by decide) (by decide) ?b ?c ?d rfl rfl rfl
  case b => exact byLen2 fun _ _ => rfl
  case c => decide
  case d =>
    intro L
    exact bCons_ok (sAss_ok (dItem_ok (dAttr_ok 10 rfl (by decide) (dVar_ok 20 rfl (by decide)) rfl) (dVar_ok 67 rfl (by decide)) (fun _ _ => rfl)) (gName_ok 68 rfl (by decide) (.inr ⟨by kernel_rfl, by kernel_rfl⟩)) rfl rfl rfl)
        (bCons_ok (sAssComp_ok 10 11 rfl rfl ⟨rfl, by decide, by decide, by kernel_rfl, by decide, rfl, idsOk_of (by kernel_rfl)⟩ (dAttr_ok 11 rfl (by decide) (dVar_ok 20 rfl (by decide)) rfl) (fun _ => tsNil_ok) (fun _ => dBin_ok oMod_ok (dBin_ok oShr_ok (dVar_ok 10 rfl (by decide)) (dVar_ok 67 rfl (by decide))) (dInt_ok)) (.inl ⟨pure_dTT, pure_dBin (pure_dBin (pure_dVar _) (pure_dVar _)) (pure_dInt _)⟩) (fun _ => rfl) (.inl (by kernel_rfl)) (by decide) rfl)
        (bCons_ok (sAssComp_ok 10 12 rfl rfl ⟨rfl, by decide, by decide, by kernel_rfl, by decide, rfl, idsOk_of (by kernel_rfl)⟩ (dAttr_ok 12 rfl (by decide) (dVar_ok 20 rfl (by decide)) rfl) (fun _ => tsNil_ok) (fun _ => dBin_ok oMod_ok (dBin_ok oShr_ok (dVar_ok 10 rfl (by decide)) (dVar_ok 67 rfl (by decide))) (dInt_ok)) (.inl ⟨pure_dTT, pure_dBin (pure_dBin (pure_dVar _) (pure_dVar _)) (pure_dInt _)⟩) (fun _ => rfl) (.inl (by kernel_rfl)) (by decide) rfl)
        (bCons_ok (sAssComp_ok 6 69 rfl rfl ⟨rfl, by decide, by decide, by kernel_rfl, by decide, rfl, idsOk_of (by kernel_rfl)⟩ (dRange_ok (cBoot_ok (by kernel_rfl) (fun _ => by kernel_rfl) boot_range (by decide) (by decide)) (lCons_ok (dInt_ok) (lNil_ok) rfl) rfl ⟨rfl, rfl⟩) (fun _ => tsNil_ok) (fun _ => dIf_ok (tBool_ok (aAnd_cons (tCmp_ok cNe_ok (dVar_ok 68 rfl (by decide)) (dInt_ok) rfl) (aAnd_cons (tCmp_ok cEq_ok (dVar_ok 6 rfl (by decide)) (dBin_ok oMod_ok (dVar_ok 68 rfl (by decide)) (dInt_ok)) rfl) (aAnd_nil)))) (dInt_ok) (dInt_ok)) (.inr (noRef_range _)) (fun _ => rfl) (.inl (by kernel_rfl)) (by decide) rfl)
        (bCons_ok (sRet_ok (dOrV_ok (dNeL_ok (by decide) (dVar_ok 11 rfl (by decide)) (dVar_ok 69 rfl (by decide)) rfl) (dNeL_ok (by decide) (dVar_ok 12 rfl (by decide)) (dComp_ok 64 rfl ⟨rfl, by decide, by decide, by kernel_rfl, by decide, rfl, idsOk_of (by kernel_rfl)⟩ (dTup_ok (lCons_ok (dInt_ok) (lCons_ok (dInt_ok) (lNil_ok) rfl) rfl)) (fun _ => tsNil_ok) (fun _ => dIf_ok (tBool_ok (aAnd_cons (tCmp_ok cNe_ok (dVar_ok 68 rfl (by decide)) (dInt_ok) rfl) (aAnd_cons (tCmp_ok cEq_ok (dBin_ok oDiv_ok (dVar_ok 68 rfl (by decide)) (dInt_ok)) (dVar_ok 64 rfl (by decide)) rfl) (aAnd_nil)))) (dInt_ok) (dInt_ok)) (.inr (noRef_tup _)) (fun _ => rfl)) rfl)))
        (bNil_ok)))))
noncomputable def b__law_wing : SD := bCons (sSwap (dTup (lCons (dBin oDiv (dVar 23) (dInt 2)) (lCons (dIf (dCmp (kEq) (dBin oMod (dVar 30) (dInt 2)) (dInt 1)) (dInt 0) (dBin oSub (dVar 23) (dInt 1))) (lNil)))) 71 59)
  (bCons (sIf (dCmp (kLt) (dAbs (dBin oSub (dVar 71) (dVar 59))) (dInt 3)) (bCons (sRet (dNone))
  (bNil)) (bNil))
  (bCons (sAss (dIf (dCmp (kGt) (dVar 30) (dInt 1)) (dBin oSub (dVar 19) (dVar 23)) (dInt 0)) (gName 70))
  (bCons (sRet (dTup (lCons (dBin oAdd (dVar 70) (dVar 71)) (lCons (dBin oAdd (dVar 70) (dVar 59)) (lNil)))))
  (bNil))))
noncomputable def d__law_wing : FD := fDef [23, 19, 30] b__law_wing
theorem c__law_wing : DenF w base 11 317 d__law_wing := by
  refine fDef_ok (k := 10) (by k_is) (by kernel_rfl) (by decide) (by decide) ?b ?c ?d rfl rfl rfl
  case b => exact byLen3 fun _ _ _ => rfl
  case c => decide
  case d =>
    intro L
    exact bCons_ok (sSwap_ok 71 59 rfl rfl (by decide) (by decide) (.inl (by kernel_rfl)) (.inl (by kernel_rfl)) (dTup_ok (lCons_ok (dBin_ok oDiv_ok (dVar_ok 23 rfl (by decide)) (dInt_ok)) (lCons_ok (dIf_ok (tCmp_ok cEq_ok (dBin_ok oMod_ok (dVar_ok 30 rfl (by decide)) (dInt_ok)) (dInt_ok) rfl) (dInt_ok) (dBin_ok oSub_ok (dVar_ok 23 rfl (by decide)) (dInt_ok))) (lNil_ok) rfl) rfl)) rfl rfl)
        (bCons_ok (sIf_ok (tCmp_ok cLt_ok (dAbs_ok (cBoot_ok (by kernel_rfl) (fun _ => by kernel_rfl) boot_abs (by decide) (by decide)) (dBin_ok oSub_ok (dVar_ok 71 rfl (by decide)) (dVar_ok 59 rfl (by decide))) rfl ⟨rfl, rfl⟩) (dInt_ok) rfl) (bCons_ok (sRet_ok (dNone_ok))
        (bNil_ok)) (bNil_ok))
        (bCons_ok (sAss_ok (dIf_ok (tCmp_ok cGt_ok (dVar_ok 30 rfl (by decide)) (dInt_ok) rfl) (dBin_ok oSub_ok (dVar_ok 19 rfl (by decide)) (dVar_ok 23 rfl (by decide))) (dInt_ok)) (gName_ok 70 rfl (by decide) (.inl (by kernel_rfl))) rfl rfl rfl)
        (bCons_ok (sRet_ok (dTup_ok (lCons_ok (dBin_ok oAdd_ok (dVar_ok 70 rfl (by decide)) (dVar_ok 71 rfl (by decide))) (lCons_ok (dBin_ok oAdd_ok (dVar_ok 70 rfl (by decide)) (dVar_ok 59 rfl (by decide))) (lNil_ok) rfl) rfl)))
        (bNil_ok))))
noncomputable def b__law_rights : SD := bCons (sIf (dOr (dCmp (kLt) (dAttr (dVar 20) 13) (dInt 0)) (dOr (dCmp (kGt) (dAttr (dVar 20) 13) (dInt 15)) (dFF))) (bCons (sRet (dNeg (dInt 1)))
  (bNil)) (bNil))
  (bCons (sFor (dRange (lCons (dInt 4) (lNil))) (gName 30) (bCons (sIf (dCmp (kEq) (dBin oMod (dBin oDiv (dAttr (dVar 20) 13) (dBin oPow (dInt 2) (dVar 30))) (dInt 2)) (dInt 1)) (bCons (sAss (dIf (dTru (dVar 72)) (dX (xCall d__law_wing (lCons (dVar 23) (lCons (dVar 19) (lCons (dVar 30) (lNil)))))) (dNone)) (gName 31))
  (bCons (sIf (dIsN (dVar 31)) (bCons (sRet (dNeg (dInt 1)))
  (bNil)) (bNil))
  (bCons (sZip (dVar 31) (dTup (lCons (dInt 6) (lCons (dInt 4) (lNil)))) 67 68 (dCmp (kNe) (dItem (dAttr (dVar 20) 10) (dVar 67)) (dBin oAdd (dVar 68) (dBin oMul (dBin oDiv (dVar 30) (dInt 2)) (dInt 8)))))
  (bNil)))) (bNil))
  (bNil)))
  (bCons (sRet (dNone))
  (bNil)))
noncomputable def d__law_rights : FD := fDef [20, 23, 19, 72] b__law_rights
theorem c__law_rights : DenF w base 13 324 d__law_rights := by
  refine fDef_ok (k := 12) (by k_is) (by kernel_rfl) (by decide) (by decide) ?b ?c ?d rfl rfl rfl
  case b => exact byLen4 fun _ _ _ _ => rfl
  case c => decide
  case d =>
    intro L
    exact bCons_ok (sIf_ok (tBool_ok (aOr_cons (tCmp_ok cLt_ok (dAttr_ok 13 rfl (by decide) (dVar_ok 20 rfl (by decide)) rfl) (dInt_ok) rfl) (aOr_cons (tCmp_ok cGt_ok (dAttr_ok 13 rfl (by decide) (dVar_ok 20 rfl (by decide)) rfl) (dInt_ok) rfl) (aOr_nil)))) (bCons_ok (sRet_ok (dNeg_ok (dInt_ok)))
        (bNil_ok)) (bNil_ok))
        (bCons_ok (sFor_ok (dRange_ok (cBoot_ok (by kernel_rfl) (fun _ => by kernel_rfl) boot_range (by decide) (by decide)) (lCons_ok (dInt_ok) (lNil_ok) rfl) rfl ⟨rfl, rfl⟩) (gName_ok 30 rfl (by decide) (.inl (by kernel_rfl))) (bCons_ok (sIf_ok (tCmp_ok cEq_ok (dBin_ok oMod_ok (dBin_ok oDiv_ok (dAttr_ok 13 rfl (by decide) (dVar_ok 20 rfl (by decide)) rfl) (dBin_ok oPow_ok (dInt_ok) (dVar_ok 30 rfl (by decide)))) (dInt_ok)) (dInt_ok) rfl) (bCons_ok (sAss_ok (dIf_ok (tTru_ok (dVar_ok 72 rfl (by decide)) (fun _ => rfl)) (dX_ok (xCall_ok (cGlob_ok (by kernel_rfl) (fun _ => by kernel_rfl) (by decide)) (fun _ => by kernel_rfl) (c__law_wing.mono (by decide)) (lCons_ok (dVar_ok 23 rfl (by decide)) (lCons_ok (dVar_ok 19 rfl (by decide)) (lCons_ok (dVar_ok 30 rfl (by decide)) (lNil_ok) rfl) rfl) rfl) rfl ⟨rfl, rfl⟩)) (dNone_ok)) (gName_ok 31 rfl (by decide) (.inl (by kernel_rfl))) rfl rfl rfl)
        (bCons_ok (sIf_ok (tIsN_ok (dVar_ok 31 rfl (by decide))) (bCons_ok (sRet_ok (dNeg_ok (dInt_ok)))
        (bNil_ok)) (bNil_ok))
        (bCons_ok (sZip_ok 67 68 rfl rfl rfl (by decide) (by decide) (by kernel_rfl) (by kernel_rfl) (by decide) (cBoot_ok (by kernel_rfl) (fun _ => by kernel_rfl) boot_zip (by decide) (by decide)) (dVar_ok 31 rfl (by decide)) (dTup_ok (lCons_ok (dInt_ok) (lCons_ok (dInt_ok) (lNil_ok) rfl) rfl)) (pCmp_ok cNe_ok (pItem_ok (pAttr_ok 10 rfl (by decide) (pVar_ok 20 rfl (by decide)) rfl) (pVar_ok 67 rfl (by decide)) (fun _ _ => rfl)) (pBin_ok oAdd_ok (pVar_ok 68 rfl (by decide)) (pBin_ok oMul_ok (pBin_ok oDiv_ok (pVar_ok 30 rfl (by decide)) (pInt_ok)) (pInt_ok))) rfl) rfl ⟨rfl, rfl⟩ ⟨rfl, rfl⟩ (fun _ => rfl))
        (bNil_ok)))) (bNil_ok))
        (bNil_ok)) rfl (fun _ _ => rfl) (fun _ => rfl))
        (bCons_ok (sRet_ok (dNone_ok))
        (bNil_ok)))
noncomputable def b__law_is_passed : SD := bCons (sAss (dTup (lCons (dBin oMul (dVar 23) (dVar 25)) (lCons (dIf (dCmp (kEq) (dAttr (dVar 20) 5) (dInt 0)) (dVar 23) (dNeg (dVar 23))) (lNil)))) (gTup (gsCons (gName 19) (gsCons (gName 22) (gsNil)))))
  (bCons (sAss (dIf (dCmp (kEq) (dAttr (dVar 20) 5) (dInt 0)) (dBin oSub (dVar 25) (dInt 3)) (dInt 2)) (gName 40))
  (bCons (sIf (dOr (dNot (dTru (dVar 24))) (dOr (dNot (dChain (kLe) (kLt) (dInt 0) (dAttr (dVar 20) 14) (dVar 19))) (dOr (dCmp (kNe) (dBin oDiv (dAttr (dVar 20) 14) (dVar 23)) (dVar 40)) (dFF)))) (bCons (sRet (dBool false))
  (bNil)) (bNil))
  (bCons (sAss (dIf (dCmp (kEq) (dAttr (dVar 20) 5) (dInt 0)) (dTup (lCons (dInt 9) (lCons (dInt 1) (lNil)))) (dTup (lCons (dInt 1) (lCons (dInt 9) (lNil))))) (gTup (gsCons (gName 75) (gsCons (gName 76) (gsNil)))))
  (bCons (sAss (dList (lCons (dItem (dAttr (dVar 20) 10) (dBin oAdd (dAttr (dVar 20) 14) (dVar 22))) (lCons (dItem (dAttr (dVar 20) 10) (dAttr (dVar 20) 14)) (lCons (dItem (dAttr (dVar 20) 10) (dBin oSub (dAttr (dVar 20) 14) (dVar 22))) (lNil))))) (gName 73))
  (bCons (sAss (dComp [20, 23, 22] 67 (dTup (lCons (dBin oSub (dBin oSub (dAttr (dVar 20) 14) (dVar 22)) (dInt 1)) (lCons (dBin oAdd (dBin oSub (dAttr (dVar 20) 14) (dVar 22)) (dInt 1)) (lNil)))) (dCmp (kEq) (dBin oDiv (dVar 67) (dVar 23)) (dBin oDiv (dBin oSub (dAttr (dVar 20) 14) (dVar 22)) (dVar 23))) (dVar 67)) (gName 74))
  (bCons (sRet (dAndV (dVal (dEqL (dVar 73) (dList (lCons (dInt 0) (lCons (dInt 0) (lCons (dVar 75) (lNil))))))) (dVal (dIn (dVar 76) (dComp [20] 67 (dVar 74) (dTT) (dItem (dAttr (dVar 20) 10) (dVar 67)))))))
  (bNil)))))))
noncomputable def d__law_is_passed : FD := fDef [20, 23, 25, 24] b__law_is_passed
theorem c__law_is_passed : DenF w base 11 329 d__law_is_passed := by
  refine fDef_ok (k := 10) (by k_is) (by kernel_rfl) (by decide) (by decide) ?b ?c ?d rfl rfl rfl
  case b => exact byLen4 fun _ _ _ _ => rfl
  case c => decide
  case d =>
    intro L
    exact bCons_ok (sAss_ok (dTup_ok (lCons_ok (dBin_ok oMul_ok (dVar_ok 23 rfl (by decide)) (dVar_ok 25 rfl (by decide))) (lCons_ok (dIf_ok (tCmp_ok cEq_ok (dAttr_ok 5 rfl (by decide) (dVar_ok 20 rfl (by decide)) rfl) (dInt_ok) rfl) (dVar_ok 23 rfl (by decide)) (dNeg_ok (dVar_ok 23 rfl (by decide)))) (lNil_ok) rfl) rfl)) (gTup_ok (gsCons_ok (gName_ok 19 rfl (by decide) (.inl (by kernel_rfl))) (gsCons_ok (gName_ok 22 rfl (by decide) (.inr ⟨by kernel_rfl, by kernel_rfl⟩)) (gsNil_ok))) rfl rfl (gs_lenS (gs_lenS (gs_len0)))) rfl rfl rfl)
        (bCons_ok (sAss_ok (dIf_ok (tCmp_ok cEq_ok (dAttr_ok 5 rfl (by decide) (dVar_ok 20 rfl (by decide)) rfl) (dInt_ok) rfl) (dBin_ok oSub_ok (dVar_ok 25 rfl (by decide)) (dInt_ok)) (dInt_ok)) (gName_ok 40 rfl (by decide) (.inl (by kernel_rfl))) rfl rfl rfl)
        (bCons_ok (sIf_ok (tBool_ok (aOr_cons (tNot_ok (tTru_ok (dVar_ok 24 rfl (by decide)) (fun _ => rfl))) (aOr_cons (tNot_ok (tChain_ok cLe_ok cLt_ok (dInt_ok) (dAttr_ok 14 rfl (by decide) (dVar_ok 20 rfl (by decide)) rfl) (dVar_ok 19 rfl (by decide)) rfl)) (aOr_cons (tCmp_ok cNe_ok (dBin_ok oDiv_ok (dAttr_ok 14 rfl (by decide) (dVar_ok 20 rfl (by decide)) rfl) (dVar_ok 23 rfl (by decide))) (dVar_ok 40 rfl (by decide)) rfl) (aOr_nil))))) (bCons_ok (sRet_ok (dBool_ok))
        (bNil_ok)) (bNil_ok))
        (bCons_ok (sAss_ok (dIf_ok (tCmp_ok cEq_ok (dAttr_ok 5 rfl (by decide) (dVar_ok 20 rfl (by decide)) rfl) (dInt_ok) rfl) (dTup_ok (lCons_ok (dInt_ok) (lCons_ok (dInt_ok) (lNil_ok) rfl) rfl)) (dTup_ok (lCons_ok (dInt_ok) (lCons_ok (dInt_ok) (lNil_ok) rfl) rfl))) (gTup_ok (gsCons_ok (gName_ok 75 rfl (by decide) (.inl (by kernel_rfl))) (gsCons_ok (gName_ok 76 rfl (by decide) (.inl (by kernel_rfl))) (gsNil_ok))) rfl rfl (gs_lenS (gs_lenS (gs_len0)))) rfl rfl rfl)
        (bCons_ok (sAss_ok (dList_ok (lCons_ok (dItem_ok (dAttr_ok 10 rfl (by decide) (dVar_ok 20 rfl (by decide)) rfl) (dBin_ok oAdd_ok (dAttr_ok 14 rfl (by decide) (dVar_ok 20 rfl (by decide)) rfl) (dVar_ok 22 rfl (by decide))) (fun _ _ => rfl)) (lCons_ok (dItem_ok (dAttr_ok 10 rfl (by decide) (dVar_ok 20 rfl (by decide)) rfl) (dAttr_ok 14 rfl (by decide) (dVar_ok 20 rfl (by decide)) rfl) (fun _ _ => rfl)) (lCons_ok (dItem_ok (dAttr_ok 10 rfl (by decide) (dVar_ok 20 rfl (by decide)) rfl) (dBin_ok oSub_ok (dAttr_ok 14 rfl (by decide) (dVar_ok 20 rfl (by decide)) rfl) (dVar_ok 22 rfl (by decide))) (fun _ _ => rfl)) (lNil_ok) rfl) rfl) rfl)) (gName_ok 73 rfl (by decide) (.inl (by kernel_rfl))) rfl rfl rfl)
        (bCons_ok (sAssComp_ok 67 74 rfl rfl ⟨rfl, by decide, by decide, by kernel_rfl, by decide, rfl, idsOk_of (by kernel_rfl)⟩ (dTup_ok (lCons_ok (dBin_ok oSub_ok (dBin_ok oSub_ok (dAttr_ok 14 rfl (by decide) (dVar_ok 20 rfl (by decide)) rfl) (dVar_ok 22 rfl (by decide))) (dInt_ok)) (lCons_ok (dBin_ok oAdd_ok (dBin_ok oSub_ok (dAttr_ok 14 rfl (by decide) (dVar_ok 20 rfl (by decide)) rfl) (dVar_ok 22 rfl (by decide))) (dInt_ok)) (lNil_ok) rfl) rfl)) (fun _ => tsOne_ok (tCmp_ok cEq_ok (dBin_ok oDiv_ok (dVar_ok 67 rfl (by decide)) (dVar_ok 23 rfl (by decide))) (dBin_ok oDiv_ok (dBin_ok oSub_ok (dAttr_ok 14 rfl (by decide) (dVar_ok 20 rfl (by decide)) rfl) (dVar_ok 22 rfl (by decide))) (dVar_ok 23 rfl (by decide))) rfl)) (fun _ => dVar_ok 67 rfl (by decide)) (.inr (noRef_tup _)) (fun _ => rfl) (.inl (by kernel_rfl)) (by decide) rfl)
        (bCons_ok (sRet_ok (dAndV_ok (dEqL_ok (by decide) (dVar_ok 73 rfl (by decide)) (dList_ok (lCons_ok (dInt_ok) (lCons_ok (dInt_ok) (lCons_ok (dVar_ok 75 rfl (by decide)) (lNil_ok) rfl) rfl) rfl)) rfl) (dIn_ok (dVar_ok 76 rfl (by decide)) (dComp_ok 67 rfl ⟨rfl, by decide, by decide, by kernel_rfl, by decide, rfl, idsOk_of (by kernel_rfl)⟩ (dVar_ok 74 rfl (by decide)) (fun _ => tsNil_ok) (fun _ => dItem_ok (dAttr_ok 10 rfl (by decide) (dVar_ok 20 rfl (by decide)) rfl) (dVar_ok 67 rfl (by decide)) (fun _ _ => rfl)) (.inl ⟨pure_dTT, pure_dItem (pure_dAttr (pure_dVar _)) (pure_dVar _)⟩) (fun _ => rfl)) rfl)))
        (bNil_ok)))))))
noncomputable def b__law_blamed : SD := bCons (sAss (dTup (lCons (dBin oMul (dVar 23) (dVar 25)) (lCons (dAttr (dVar 20) 10) (lNil)))) (gTup (gsCons (gName 19) (gsCons (gName 65) (gsNil)))))
  (bCons (sAss (dList (lCons (dLen (dVar 65)) (lCons (dLen (dAttr (dVar 20) 11)) (lCons (dLen (dAttr (dVar 20) 12)) (lNil))))) (gName 77))
  (bCons (sIf (dOr (dNot (dIn (dAttr (dVar 20) 5) (dTup (lCons (dInt 0) (lCons (dInt 1) (lNil)))))) (dOr (dCmp (kLt) (dAttr (dVar 20) 15) (dInt 0)) (dOr (dCmp (kLt) (dAttr (dVar 20) 16) (dInt 1)) (dOr (dNot (dEqL (dVar 77) (dList (lCons (dVar 19) (lCons (dInt 7) (lCons (dInt 2) (lNil))))))) (dFF))))) (bCons (sRet (dNeg (dInt 1)))
  (bNil)) (bNil))
  (bCons (sAss (dComp [65] 67 (dRange (lCons (dVar 19) (lNil))) (dNot (dIn (dItem (dVar 65) (dVar 67)) (dK k_law_known))) (dVar 67)) (gName 78))
  (bCons (sIf (dNot (dEqL (dVar 78) (dList (lNil)))) (bCons (sRet (dItem (dVar 78) (dInt 0)))
  (bNil)) (bNil))
  (bCons (sIf (dNot (dEqL (dComp [19] 10 (dCat (dAttr (dVar 20) 11) (dAttr (dVar 20) 12)) (dOr (dCmp (kLt) (dVar 10) (dInt 0)) (dOr (dCmp (kGe) (dVar 10) (dBin oPow (dInt 2) (dVar 19))) (dFF))) (dVar 10)) (dList (lNil)))) (bCons (sRet (dNeg (dInt 1)))
  (bNil)) (bNil))
  (bCons (sAss (dComp [20] 67 (dRange (lCons (dVar 19) (lNil))) (dTru (dX (xCall d__law_lies (lCons (dVar 20) (lCons (dVar 67) (lNil)))))) (dVar 67)) (gName 79))
  (bCons (sIf (dNot (dEqL (dVar 79) (dList (lNil)))) (bCons (sRet (dItem (dVar 79) (dInt 0)))
  (bNil)) (bNil))
  (bCons (sFor (dTup (lCons (dInt 6) (lCons (dInt 14) (lNil)))) (gName 36) (bCons (sAss (dComp [65, 36] 67 (dRange (lCons (dVar 19) (lNil))) (dCmp (kEq) (dItem (dVar 65) (dVar 67)) (dVar 36)) (dVar 67)) (gName 82))
  (bCons (sIf (dCmp (kNe) (dLen (dVar 82)) (dInt 1)) (bCons (sRet (dIf (dNot (dEqL (dVar 82) (dList (lNil)))) (dItem (dVar 82) (dNeg (dInt 1))) (dNeg (dInt 1))))
  (bNil)) (bNil))
  (bNil))))
  (bCons (sAss (dComp [19, 65, 23] 67 (dRange (lCons (dVar 19) (lNil))) (dAnd (dIn (dItem (dVar 65) (dVar 67)) (dTup (lCons (dInt 1) (lCons (dInt 9) (lNil))))) (dAnd (dOr (dCmp (kLt) (dVar 67) (dVar 23)) (dOr (dCmp (kGe) (dVar 67) (dBin oSub (dVar 19) (dVar 23))) (dFF))) (dTT))) (dVar 67)) (gName 80))
  (bCons (sIf (dNot (dEqL (dVar 80) (dList (lNil)))) (bCons (sRet (dItem (dVar 80) (dInt 0)))
  (bNil)) (bNil))
  (bCons (sAss (dX (xCall d__law_rights (lCons (dVar 20) (lCons (dVar 23) (lCons (dVar 19) (lCons (dVar 72) (lNil))))))) (gName 81))
  (bCons (sIf (dAnd (dIsN (dVar 81)) (dAnd (dCmp (kNe) (dAttr (dVar 20) 14) (dNeg (dInt 1))) (dAnd (dNot (dTru (dX (xCall d__law_is_passed (lCons (dVar 20) (lCons (dVar 23) (lCons (dVar 25) (lCons (dVar 24) (lNil))))))))) (dTT)))) (bCons (sRet (dAttr (dVar 20) 14))
  (bNil)) (bNil))
  (bCons (sRet (dVar 81))
  (bNil))))))))))))))
noncomputable def d__law_blamed : FD := fDef [20, 23, 25, 24, 72] b__law_blamed
theorem c__law_blamed : DenF w base 15 334 d__law_blamed := by
  refine fDef_ok (k := 14) (by k_is) (by kernel_rfl) (by decide) (by decide) ?b ?c ?d rfl rfl rfl
  case b => exact byLen5 fun _ _ _ _ _ => rfl
  case c => decide
  case d =>
    intro L
    exact bCons_ok (sAss_ok (dTup_ok (lCons_ok (dBin_ok oMul_ok (dVar_ok 23 rfl (by decide)) (dVar_ok 25 rfl (by decide))) (lCons_ok (dAttr_ok 10 rfl (by decide) (dVar_ok 20 rfl (by decide)) rfl) (lNil_ok) rfl) rfl)) (gTup_ok (gsCons_ok (gName_ok 19 rfl (by decide) (.inr ⟨by kernel_rfl, by kernel_rfl⟩)) (gsCons_ok (gName_ok 65 rfl (by decide) (.inr ⟨by kernel_rfl, by kernel_rfl⟩)) (gsNil_ok))) rfl rfl (gs_lenS (gs_lenS (gs_len0)))) rfl rfl rfl)
        (bCons_ok (sAss_ok (dList_ok (lCons_ok (dLen_ok (cBoot_ok (by kernel_rfl) (fun _ => by kernel_rfl) boot_len (by decide) (by decide)) (dVar_ok 65 rfl (by decide)) rfl ⟨rfl, rfl⟩) (lCons_ok (dLen_ok (cBoot_ok (by kernel_rfl) (fun _ => by kernel_rfl) boot_len (by decide) (by decide)) (dAttr_ok 11 rfl (by decide) (dVar_ok 20 rfl (by decide)) rfl) rfl ⟨rfl, rfl⟩) (lCons_ok (dLen_ok (cBoot_ok (by kernel_rfl) (fun _ => by kernel_rfl) boot_len (by decide) (by decide)) (dAttr_ok 12 rfl (by decide) (dVar_ok 20 rfl (by decide)) rfl) rfl ⟨rfl, rfl⟩) (lNil_ok) rfl) rfl) rfl)) (gName_ok 77 rfl (by decide) (.inl (by kernel_rfl))) rfl rfl rfl)
        (bCons_ok (sIf_ok (tBool_ok (aOr_cons (tNotIn_ok (dAttr_ok 5 rfl (by decide) (dVar_ok 20 rfl (by decide)) rfl) (dTup_ok (lCons_ok (dInt_ok) (lCons_ok (dInt_ok) (lNil_ok) rfl) rfl)) rfl) (aOr_cons (tCmp_ok cLt_ok (dAttr_ok 15 rfl (by decide) (dVar_ok 20 rfl (by decide)) rfl) (dInt_ok) rfl) (aOr_cons (tCmp_ok cLt_ok (dAttr_ok 16 rfl (by decide) (dVar_ok 20 rfl (by decide)) rfl) (dInt_ok) rfl) (aOr_cons (tNeL_ok (by decide) (dVar_ok 77 rfl (by decide)) (dList_ok (lCons_ok (dVar_ok 19 rfl (by decide)) (lCons_ok (dInt_ok) (lCons_ok (dInt_ok) (lNil_ok) rfl) rfl) rfl)) rfl) (aOr_nil)))))) (bCons_ok (sRet_ok (dNeg_ok (dInt_ok)))
        (bNil_ok)) (bNil_ok))
        (bCons_ok (sAssComp_ok 67 78 rfl rfl ⟨rfl, by decide, by decide, by kernel_rfl, by decide, rfl, idsOk_of (by kernel_rfl)⟩ (dRange_ok (cBoot_ok (by kernel_rfl) (fun _ => by kernel_rfl) boot_range (by decide) (by decide)) (lCons_ok (dVar_ok 19 rfl (by decide)) (lNil_ok) rfl) rfl ⟨rfl, rfl⟩) (fun _ => tsOne_ok (tNotIn_ok (dItem_ok (dVar_ok 65 rfl (by decide)) (dVar_ok 67 rfl (by decide)) (fun _ _ => rfl)) (dK_ok (.ref 284) (by kernel_rfl) (fun _ => by kernel_rfl) (fun _ => by kernel_rfl) (by decide)) rfl)) (fun _ => dVar_ok 67 rfl (by decide)) (.inr (noRef_range _)) (fun _ => rfl) (.inl (by kernel_rfl)) (by decide) rfl)
        (bCons_ok (sIf_ok (tNeL_ok (by decide) (dVar_ok 78 rfl (by decide)) (dList_ok (lNil_ok)) rfl) (bCons_ok (sRet_ok (dItem_ok (dVar_ok 78 rfl (by decide)) (dInt_ok) (fun _ _ => rfl)))
        (bNil_ok)) (bNil_ok))
        (bCons_ok (sIf_ok (tNeL_ok (by decide) (dComp_ok 10 rfl ⟨rfl, by decide, by decide, by kernel_rfl, by decide, rfl, idsOk_of (by kernel_rfl)⟩ (dCat_ok (dAttr_ok 11 rfl (by decide) (dVar_ok 20 rfl (by decide)) rfl) (dAttr_ok 12 rfl (by decide) (dVar_ok 20 rfl (by decide)) rfl)) (fun _ => tsOne_ok (tBool_ok (aOr_cons (tCmp_ok cLt_ok (dVar_ok 10 rfl (by decide)) (dInt_ok) rfl) (aOr_cons (tCmp_ok cGe_ok (dVar_ok 10 rfl (by decide)) (dBin_ok oPow_ok (dInt_ok) (dVar_ok 19 rfl (by decide))) rfl) (aOr_nil))))) (fun _ => dVar_ok 10 rfl (by decide)) (.inl ⟨pure_dOr (pure_dCmp (pure_dVar _) (pure_dInt _)) (pure_dOr (pure_dCmp (pure_dVar _) (pure_dBin (pure_dInt _) (pure_dVar _))) pure_dFF), pure_dVar _⟩) (fun _ => rfl)) (dList_ok (lNil_ok)) rfl) (bCons_ok (sRet_ok (dNeg_ok (dInt_ok)))
        (bNil_ok)) (bNil_ok))
        (bCons_ok (sAssComp_ok 67 79 rfl rfl ⟨rfl, by decide, by decide, by kernel_rfl, by decide, rfl, idsOk_of (by kernel_rfl)⟩ (dRange_ok (cBoot_ok (by kernel_rfl) (fun _ => by kernel_rfl) boot_range (by decide) (by decide)) (lCons_ok (dVar_ok 19 rfl (by decide)) (lNil_ok) rfl) rfl ⟨rfl, rfl⟩) (fun _ => tsOne_ok (tTru_ok (dX_ok (xCall_ok (cGlob_ok (by kernel_rfl) (fun _ => by kernel_rfl) (by decide)) (fun _ => by kernel_rfl) (c__law_lies.mono (by decide)) (lCons_ok (dVar_ok 20 rfl (by decide)) (lCons_ok (dVar_ok 67 rfl (by decide)) (lNil_ok) rfl) rfl) rfl ⟨rfl, rfl⟩)) (fun _ => rfl))) (fun _ => dVar_ok 67 rfl (by decide)) (.inr (noRef_range _)) (fun _ => rfl) (.inl (by kernel_rfl)) (by decide) rfl)
        (bCons_ok (sIf_ok (tNeL_ok (by decide) (dVar_ok 79 rfl (by decide)) (dList_ok (lNil_ok)) rfl) (bCons_ok (sRet_ok (dItem_ok (dVar_ok 79 rfl (by decide)) (dInt_ok) (fun _ _ => rfl)))
        (bNil_ok)) (bNil_ok))
        (bCons_ok (sFor_ok (dTup_ok (lCons_ok (dInt_ok) (lCons_ok (dInt_ok) (lNil_ok) rfl) rfl)) (gName_ok 36 rfl (by decide) (.inr ⟨by kernel_rfl, by kernel_rfl⟩)) (bCons_ok (sAssComp_ok 67 82 rfl rfl ⟨rfl, by decide, by decide, by kernel_rfl, by decide, rfl, idsOk_of (by kernel_rfl)⟩ (dRange_ok (cBoot_ok (by kernel_rfl) (fun _ => by kernel_rfl) boot_range (by decide) (by decide)) (lCons_ok (dVar_ok 19 rfl (by decide)) (lNil_ok) rfl) rfl ⟨rfl, rfl⟩) (fun _ => tsOne_ok (tCmp_ok cEq_ok (dItem_ok (dVar_ok 65 rfl (by decide)) (dVar_ok 67 rfl (by decide)) (fun _ _ => rfl)) (dVar_ok 36 rfl (by decide)) rfl)) (fun _ => dVar_ok 67 rfl (by decide)) (.inr (noRef_range _)) (fun _ => rfl) (.inl (by kernel_rfl)) (by decide) rfl)
        (bCons_ok (sIf_ok (tCmp_ok cNe_ok (dLen_ok (cBoot_ok (by kernel_rfl) (fun _ => by kernel_rfl) boot_len (by decide) (by decide)) (dVar_ok 82 rfl (by decide)) rfl ⟨rfl, rfl⟩) (dInt_ok) rfl) (bCons_ok (sRet_ok (dIf_ok (tNeL_ok (by decide) (dVar_ok 82 rfl (by decide)) (dList_ok (lNil_ok)) rfl) (dItem_ok (dVar_ok 82 rfl (by decide)) (dNeg_ok (dInt_ok)) (fun _ _ => rfl)) (dNeg_ok (dInt_ok))))
        (bNil_ok)) (bNil_ok))
        (bNil_ok))) rfl (fun _ _ => rfl) (fun _ => rfl))
        (bCons_ok (sAssComp_ok 67 80 rfl rfl ⟨rfl, by decide, by decide, by kernel_rfl, by decide, rfl, idsOk_of (by kernel_rfl)⟩ (dRange_ok (cBoot_ok (by kernel_rfl) (fun _ => by kernel_rfl) boot_range (by decide) (by decide)) (lCons_ok (dVar_ok 19 rfl (by decide)) (lNil_ok) rfl) rfl ⟨rfl, rfl⟩) (fun _ => tsOne_ok (tBool_ok (aAnd_cons (tIn_ok (dItem_ok (dVar_ok 65 rfl (by decide)) (dVar_ok 67 rfl (by decide)) (fun _ _ => rfl)) (dTup_ok (lCons_ok (dInt_ok) (lCons_ok (dInt_ok) (lNil_ok) rfl) rfl)) rfl) (aAnd_cons (tBool_ok (aOr_cons (tCmp_ok cLt_ok (dVar_ok 67 rfl (by decide)) (dVar_ok 23 rfl (by decide)) rfl) (aOr_cons (tCmp_ok cGe_ok (dVar_ok 67 rfl (by decide)) (dBin_ok oSub_ok (dVar_ok 19 rfl (by decide)) (dVar_ok 23 rfl (by decide))) rfl) (aOr_nil)))) (aAnd_nil))))) (fun _ => dVar_ok 67 rfl (by decide)) (.inr (noRef_range _)) (fun _ => rfl) (.inl (by kernel_rfl)) (by decide) rfl)
        (bCons_ok (sIf_ok (tNeL_ok (by decide) (dVar_ok 80 rfl (by decide)) (dList_ok (lNil_ok)) rfl) (bCons_ok (sRet_ok (dItem_ok (dVar_ok 80 rfl (by decide)) (dInt_ok) (fun _ _ => rfl)))
        (bNil_ok)) (bNil_ok))
        (bCons_ok (sAss_ok (dX_ok (xCall_ok (cGlob_ok (by kernel_rfl) (fun _ => by kernel_rfl) (by decide)) (fun _ => by kernel_rfl) (c__law_rights.mono (by decide)) (lCons_ok (dVar_ok 20 rfl (by decide)) (lCons_ok (dVar_ok 23 rfl (by decide)) (lCons_ok (dVar_ok 19 rfl (by decide)) (lCons_ok (dVar_ok 72 rfl (by decide)) (lNil_ok) rfl) rfl) rfl) rfl) rfl ⟨rfl, rfl⟩)) (gName_ok 81 rfl (by decide) (.inl (by kernel_rfl))) rfl rfl rfl)
        (bCons_ok (sIf_ok (tBool_ok (aAnd_cons (tIsN_ok (dVar_ok 81 rfl (by decide))) (aAnd_cons (tCmp_ok cNe_ok (dAttr_ok 14 rfl (by decide) (dVar_ok 20 rfl (by decide)) rfl) (dNeg_ok (dInt_ok)) rfl) (aAnd_cons (tNot_ok (tTru_ok (dX_ok (xCall_ok (cGlob_ok (by kernel_rfl) (fun _ => by kernel_rfl) (by decide)) (fun _ => by kernel_rfl) (c__law_is_passed.mono (by decide)) (lCons_ok (dVar_ok 20 rfl (by decide)) (lCons_ok (dVar_ok 23 rfl (by decide)) (lCons_ok (dVar_ok 25 rfl (by decide)) (lCons_ok (dVar_ok 24 rfl (by decide)) (lNil_ok) rfl) rfl) rfl) rfl) rfl ⟨rfl, rfl⟩)) (fun _ => rfl))) (aAnd_nil))))) (bCons_ok (sRet_ok (dAttr_ok 14 rfl (by decide) (dVar_ok 20 rfl (by decide)) rfl))
        (bNil_ok)) (bNil_ok))
        (bCons_ok (sRet_ok (dVar_ok 81 rfl (by decide)))
        (bNil_ok))))))))))))))
noncomputable def b_law : SD := bCons (sAss (dItem (dK k_law_forms) (dX (xCall d__law_lot (lCons (dVar 62) (lCons (dInt 3) (lNil)))))) (gTup (gsCons (gName 23) (gsCons (gName 25) (gsCons (gName 24) (gsCons (gName 72) (gsNil)))))))
  (bCons (sSwap (dTup (lCons (dX (xCall d__law_lot (lCons (dVar 62) (lCons (dInt 2) (lNil))))) (lCons (dBin oMul (dVar 23) (dVar 25)) (lNil)))) 64 19)
  (bCons (sAss (dX (xNew 275 d_IZobrist (lCons (dRep (dList (lCons (dRep (dList (lCons (dInt 0) (lNil))) (dVar 19)) (lNil))) (dInt 15)) (lCons (dRep (dList (lCons (dInt 0) (lNil))) (dVar 23)) (lCons (dRep (dList (lCons (dInt 0) (lNil))) (dInt 16)) (lCons (dInt 0) (lNil))))))) (gName 9))
  (bCons (sAss (dX (xNew 112 d_IPosition (lCons (dX (xCall d_make_geometry (lCons (dVar 23) (lCons (dVar 25) (lCons (dVar 24) (lCons (dVar 72) (lNil))))))) (lCons (dVar 9) (lNil))))) (gName 20))
  (bCons (sAss (dX (xCall d__law_men (lCons (dVar 62) (lCons (dVar 23) (lCons (dVar 25) (lCons (dVar 64) (lNil))))))) (gName 65))
  (bCons (sFor (dRange (lCons (dVar 19) (lNil))) (gName 67) (bCons (sIf (dCmp (kNe) (dItem (dVar 65) (dVar 67)) (dInt 0)) (bCons (sAss (dItem (dVar 65) (dVar 67)) (gItem (dAttr (dVar 20) 10) (dVar 67)))
  (bCons (sAugI oAdd (dAttr (dVar 20) 11) (dBin oMod (dItem (dVar 65) (dVar 67)) (dInt 8)) (dBin oShl (dInt 1) (dVar 67)))
  (bCons (sAugI oAdd (dAttr (dVar 20) 12) (dBin oDiv (dItem (dVar 65) (dVar 67)) (dInt 8)) (dBin oShl (dInt 1) (dVar 67)))
  (bNil)))) (bNil))
  (bNil)))
  (bCons (sAss (dVar 64) (gAttr (dVar 20) 5))
  (bCons (sFor (dRange (lCons (dX (xCall d__law_lot (lCons (dVar 62) (lCons (dInt 3) (lNil))))) (lNil))) (gName 66) (bCons (sExpr (xCall d__law_bent (lCons (dVar 62) (lCons (dVar 20) (lCons (dVar 19) (lNil))))))
  (bNil)))
  (bCons (sAss (dX (xCall d__law_blamed (lCons (dVar 20) (lCons (dVar 23) (lCons (dVar 25) (lCons (dVar 24) (lCons (dVar 72) (lNil)))))))) (gName 69))
  (bNil)))))))))
-- level 18
end
end Mine
end
/-! part L5 -/
section
open PySem PySem.W PyProof.Rows
set_option maxRecDepth 100000
set_option maxHeartbeats 8000000
set_option linter.unusedVariables false
namespace Mine
/-- statements that end in next, one by one -/
noncomputable def DenM (w : World) (base : Heap) (k : Nat) (env : Env) (whole rest : List Stmt) (f : SD) : Prop :=
  ∀ ⦃A : Around⦄ ⦃outer : List Env⦄ ⦃σ : AS⦄ ⦃ρ : List Addr⦄ ⦃H : AH⦄ ⦃σ' : AS⦄ ⦃H' : AH⦄ ⦃s : Shared⦄ ⦃Q : Flow → Shared → Prop⦄ ⦃E : Value → Shared → Prop⦄,
    Wd w base → Ax A (env :: outer) k → Inv w base env (env :: outer) σ ρ H s.heap → f σ H = some (.next, σ', H') →
    (∀ ρ' h' tk, StepX (own env) ρ s.heap ρ' h' → Inv w base env (env :: outer) σ' ρ' H' h' → wpAny (model PG w) A (execs rest env) Q E { s with heap := h', toks := tk }) →
    wpAny (model PG w) A (execs whole env) Q E s
section
variable {w : World} {base : Heap} {k : Nat} {env : Env}
theorem mNil_ok {r : List Stmt} : DenM w base k env r r bNil := by
  intro A outer σ ρ H σ' H' s Q E W a I e q
  cases e
  exact q ρ s.heap s.toks (.refl ..) I
theorem mCons_ok {st : Stmt} {whole rest : List Stmt} {f g : SD} (hf : DenS w base k env (exec st env) f) (hg : DenM w base k env whole rest g) : DenM w base k env (st :: whole) rest (bCons f g) := by
  intro A outer σ ρ H σ' H' s Q E W a I e q
  unfold bCons at e
  split at e
  · rename_i σ₁ H₁ h1
    refine wpAny_execs_cons (hf W a I h1 (fun ρ₁ g₁ t₁ fl S₁ I₁ hfl => ?_) fun _ _ _ _ _ z => by cases z)
    obtain rfl : fl = .next := hfl
    exact hg W a I₁ e fun ρ₂ g₂ t₂ S₂ I₂ => q ρ₂ g₂ _ (S₁.trans S₂ I₂.ownN) I₂
  · rename_i hne
    exact absurd e (hne _ _)
end
theorem DenM.run {w : World} {base : Heap} {k : Nat} {env : Env} {whole rest : List Stmt} {f : SD} {A : Around} {outer : List Env} {σ : AS} {ρ : List Addr} {H : AH} {σ' : AS} {H' : AH} {s : Shared} {Q : Flow → Shared → Prop} {E : Value → Shared → Prop} (x : DenM w base k env whole rest f)
    (W : Wd w base) (a : Ax A (env :: outer) k) (I : Inv w base env (env :: outer) σ ρ H s.heap) (e : f σ H = some (.next, σ', H'))
    (q : ∀ ρ' h' tk, StepX (own env) ρ s.heap ρ' h' → Inv w base env (env :: outer) σ' ρ' H' h' → wpAny (model PG w) A (execs rest env) Q E { s with heap := h', toks := tk }) : wpAny (model PG w) A (execs whole env) Q E s := x W a I e q
theorem wd_of {w : World} {base : Heap} {mean mg mb} (KX : (hd.heap_39 w.params).In base) (T : Top hd.view_39 (looseW hd.view_39 []) mean mg mb base) : Wd w base := ⟨KX, _, _, _, T⟩
theorem inv_first {w : World} {base h : Heap} {env : Env} {m : Str → Option Value} (F : Fr base base.objs.size h m) (hl : env.locals = base.objs.size) (hfm : env.frame = some env.locals) (hc : env.cells = []) (hk : env.scope.kind = .function) (hg : env.globals = mainGlobals) (hb : env.builtins = builtinsNs) :
    Inv w base env [env] [] [] [] h := by
  have ns : h.Ns env.locals m := hl ▸ F.ns
  refine ⟨⟨rfl, List.nodup_nil, fun _ m => by (cases m), F.keep, fun i a ao e => by cases e⟩, ⟨m, ns, fun i v e => by cases e⟩, by simp, by rw [hl]; exact Nat.le_refl _, (fun y c e => by rw [hc] at e; cases e), (fun y y' c e => by rw [hc] at e; cases e), ⟨.cons (by rw [hk]; decide) hfm ns (by rw [hl]; exact size_none _) trivial, fun _ _ _ _ => by simp, fun e m L f => ?_, by simp⟩, hk, hg, hb⟩
  rw [List.mem_singleton.mp m, hfm] at f
  cases f
  rw [hl]; exact Nat.le_refl _
theorem ax_first {env : Env} {base h : Heap} {k : Nat} (K0 : Below callerA base [] h) (hd' : callerA.depth + 1 + k < recursionLimit) (hu : callerA.units + 3 + 8 * k < cLine) : Ax (callerA.deeper env) [env] k := ⟨rfl, Around.frames_deeper K0.stack, hd', hu⟩
noncomputable def lawRun (cells : List Int) : Prop := ∃ σ₁ H₁ o H₂ dv, b_law [(62, .ref 1)] [.list (cells.map .int), .map [(63, .ref 0), (85, .int 0)]] = some (.next, σ₁, H₁) ∧
  xCall d_check_position (lCons (dVar 20) lNil) σ₁ H₁ = some (o, H₂) ∧ lk 69 σ₁ = some dv ∧ BlameIs o dv
theorem walk (PL : ∀ cells : List Int, cells.length ≤ 100 → lawRun cells) : PySem.Challenge.rw_pf0098_01.Holds := by
  w_on
  refine holds_law said_law fun said => ?_
  refine holds_open (q := hd.view_39) (loose := []) (Xt := fun s => xlAt hd.view_39 [] s && recOk (RowW.records PySem.Challenge.rw_pf0098_01.row.toRowW) s) (XP := XL hd.view_39 []) (Yf := Hook.obs hd.hook) (Ya := Hook.val hd.hook) (YP := Hook.says hd.hook) (N := 4962) hd.left (Hook.of hd.hook) (Hook.keeps hd.hook) (fun s e => xl_of s (Bool.and_eq_true_iff.mp e).1) XL.keeps (by rfl) (by rfl) (by rfl) (fun s e => recFacts_of (Bool.and_eq_true_iff.mp e).2) (by rfl) (by assumption) (by decide +kernel) ⟨rfl, rfl, rfl, rfl, rfl, by decide +kernel⟩ ?hw ?hc
  case hw => w_witness2
  w_strict (
            intro w s₀ s₁ mg mb G Y fa o pm cd doc dV kV ho hd hcd hD hmg hg args vals as hpre hlay hrd hwl hlo
            have KX := kIn_of Y
            refine Ground.open G ?_
            intro T B D TE TW
            clear D
            clear hmg
            wrow_args hpre hlay hrd hwl hlo
            all_goals (
              refine enter_call ?_
              w_top on
              try refine codeAny_mono ?_ (fun _ _ g => GoodW.toG g)
              have K0 := below_caller (Top.heap T)
              w_call any ho hd hcd hD T F)
            rename Fr _ _ _ _ => F
            rename Below _ _ _ _ => K0
            rename Top _ _ _ _ _ _ => T
            rename Frag.In _ _ => KX
            rename Heap.IsList _ _ _ => hL
            rename IntsAre _ _ => hI
            rename Shared.gens _ = #[] => hg
            have hlen := hI.length
            have W := wd_of KX T
            refine wpAny_execs_cons (law_start W (ax_first (k := 20) K0 (by decide) (by decide)) (inv_first F rfl rfl rfl rfl rfl rfl) F.ns rfl (let ⟨o, ho, r⟩ := hL; ⟨o, F.keep _ _ ho, r⟩) hI (by omega) (by kernel_rfl) (.inl (by kernel_rfl)) rfl fun cells ρ' h' tk hc S I' => ?_)
            obtain ⟨σ₁, H₁, o, H₂, dv, e1, e2, e3, e4⟩ := PL cells hc
            refine' DenM.run ?key W (ax_first (k := 20) K0 (by decide) (by decide)) I' e1 ?cont
            case key => exact mCons_ok (sAss_ok (dItem_ok (dK_ok (.ref 283) (by kernel_rfl) (fun _ => by kernel_rfl) (fun _ => by kernel_rfl) (by decide)) (dX_ok (xCall_ok (cGlob_ok (by kernel_rfl) (fun _ => by kernel_rfl) (by decide)) (fun _ => by kernel_rfl) (c__law_lot.mono (by decide)) (lCons_ok (dVar_ok 62 rfl (by decide)) (lCons_ok (dInt_ok) (lNil_ok) rfl) rfl) rfl ⟨rfl, rfl⟩)) (fun _ _ => rfl)) (gTup_ok (gsCons_ok (gName_ok 23 rfl (by decide) (.inl (by kernel_rfl))) (gsCons_ok (gName_ok 25 rfl (by decide) (.inl (by kernel_rfl))) (gsCons_ok (gName_ok 24 rfl (by decide) (.inl (by kernel_rfl))) (gsCons_ok (gName_ok 72 rfl (by decide) (.inl (by kernel_rfl))) (gsNil_ok))))) rfl rfl (gs_lenS (gs_lenS (gs_lenS (gs_lenS (gs_len0)))))) rfl rfl rfl) (mCons_ok (sSwap_ok 64 19 rfl rfl (by decide) (by decide) (.inl (by kernel_rfl)) (.inl (by kernel_rfl)) (dTup_ok (lCons_ok (dX_ok (xCall_ok (cGlob_ok (by kernel_rfl) (fun _ => by kernel_rfl) (by decide)) (fun _ => by kernel_rfl) (c__law_lot.mono (by decide)) (lCons_ok (dVar_ok 62 rfl (by decide)) (lCons_ok (dInt_ok) (lNil_ok) rfl) rfl) rfl ⟨rfl, rfl⟩)) (lCons_ok (dBin_ok oMul_ok (dVar_ok 23 rfl (by decide)) (dVar_ok 25 rfl (by decide))) (lNil_ok) rfl) rfl)) rfl rfl) (mCons_ok (sAss_ok (dX_ok (xNew_ok (cGlob_ok (by kernel_rfl) (fun _ => by kernel_rfl) (by decide)) (fun _ => by kernel_rfl) (fun _ => by kernel_rfl) (fun _ => by kernel_rfl) (fun _ => by kernel_rfl) (c_IZobrist.mono (by decide)) (lCons_ok (dRep_ok (dList_ok (lCons_ok (dRep_ok (dList_ok (lCons_ok (dInt_ok) (lNil_ok) rfl)) (dVar_ok 19 rfl (by decide))) (lNil_ok) rfl)) (dInt_ok)) (lCons_ok (dRep_ok (dList_ok (lCons_ok (dInt_ok) (lNil_ok) rfl)) (dVar_ok 23 rfl (by decide))) (lCons_ok (dRep_ok (dList_ok (lCons_ok (dInt_ok) (lNil_ok) rfl)) (dInt_ok)) (lCons_ok (dInt_ok) (lNil_ok) rfl) rfl) rfl) rfl) rfl ⟨rfl, rfl⟩)) (gName_ok 9 rfl (by decide) (.inl (by kernel_rfl))) rfl rfl rfl) (mCons_ok (sAss_ok (dX_ok (xNew_ok (cGlob_ok (by kernel_rfl) (fun _ => by kernel_rfl) (by decide)) (fun _ => by kernel_rfl) (fun _ => by kernel_rfl) (fun _ => by kernel_rfl) (fun _ => by kernel_rfl) (c_IPosition.mono (by decide)) (lCons_ok (dX_ok (xCall_ok (cGlob_ok (by kernel_rfl) (fun _ => by kernel_rfl) (by decide)) (fun _ => by kernel_rfl) (c_make_geometry.mono (by decide)) (lCons_ok (dVar_ok 23 rfl (by decide)) (lCons_ok (dVar_ok 25 rfl (by decide)) (lCons_ok (dVar_ok 24 rfl (by decide)) (lCons_ok (dVar_ok 72 rfl (by decide)) (lNil_ok) rfl) rfl) rfl) rfl) rfl ⟨rfl, rfl⟩)) (lCons_ok (dVar_ok 9 rfl (by decide)) (lNil_ok) rfl) rfl) rfl ⟨rfl, rfl⟩)) (gName_ok 20 rfl (by decide) (.inl (by kernel_rfl))) rfl rfl rfl) (mCons_ok (sAss_ok (dX_ok (xCall_ok (cGlob_ok (by kernel_rfl) (fun _ => by kernel_rfl) (by decide)) (fun _ => by kernel_rfl) (c__law_men.mono (by decide)) (lCons_ok (dVar_ok 62 rfl (by decide)) (lCons_ok (dVar_ok 23 rfl (by decide)) (lCons_ok (dVar_ok 25 rfl (by decide)) (lCons_ok (dVar_ok 64 rfl (by decide)) (lNil_ok) rfl) rfl) rfl) rfl) rfl ⟨rfl, rfl⟩)) (gName_ok 65 rfl (by decide) (.inl (by kernel_rfl))) rfl rfl rfl) (mCons_ok (sFor_ok (dRange_ok (cBoot_ok (by kernel_rfl) (fun _ => by kernel_rfl) boot_range (by decide) (by decide)) (lCons_ok (dVar_ok 19 rfl (by decide)) (lNil_ok) rfl) rfl ⟨rfl, rfl⟩) (gName_ok 67 rfl (by decide) (.inl (by kernel_rfl))) (bCons_ok (sIf_ok (tCmp_ok cNe_ok (dItem_ok (dVar_ok 65 rfl (by decide)) (dVar_ok 67 rfl (by decide)) (fun _ _ => rfl)) (dInt_ok) rfl) (bCons_ok (sAss_ok (dItem_ok (dVar_ok 65 rfl (by decide)) (dVar_ok 67 rfl (by decide)) (fun _ _ => rfl)) (gItem_ok (dAttr_ok 10 rfl (by decide) (dVar_ok 20 rfl (by decide)) rfl) (dVar_ok 67 rfl (by decide))) rfl rfl rfl) (bCons_ok (sAugI_ok oAdd_ok (dAttr_ok 11 rfl (by decide) (dVar_ok 20 rfl (by decide)) rfl) (dBin_ok oMod_ok (dItem_ok (dVar_ok 65 rfl (by decide)) (dVar_ok 67 rfl (by decide)) (fun _ _ => rfl)) (dInt_ok)) (dBin_ok oShl_ok (dInt_ok) (dVar_ok 67 rfl (by decide))) (fun _ _ _ => rfl)) (bCons_ok (sAugI_ok oAdd_ok (dAttr_ok 12 rfl (by decide) (dVar_ok 20 rfl (by decide)) rfl) (dBin_ok oDiv_ok (dItem_ok (dVar_ok 65 rfl (by decide)) (dVar_ok 67 rfl (by decide)) (fun _ _ => rfl)) (dInt_ok)) (dBin_ok oShl_ok (dInt_ok) (dVar_ok 67 rfl (by decide))) (fun _ _ _ => rfl)) (bNil_ok)))) (bNil_ok)) (bNil_ok)) rfl (fun _ _ => rfl) (fun _ => rfl)) (mCons_ok (sAss_ok (dVar_ok 64 rfl (by decide)) (gAttr_ok 5 rfl (by decide) (dVar_ok 20 rfl (by decide))) rfl rfl rfl) (mCons_ok (sFor_ok (dRange_ok (cBoot_ok (by kernel_rfl) (fun _ => by kernel_rfl) boot_range (by decide) (by decide)) (lCons_ok (dX_ok (xCall_ok (cGlob_ok (by kernel_rfl) (fun _ => by kernel_rfl) (by decide)) (fun _ => by kernel_rfl) (c__law_lot.mono (by decide)) (lCons_ok (dVar_ok 62 rfl (by decide)) (lCons_ok (dInt_ok) (lNil_ok) rfl) rfl) rfl ⟨rfl, rfl⟩)) (lNil_ok) rfl) rfl ⟨rfl, rfl⟩) (gName_ok 66 rfl (by decide) (.inl (by kernel_rfl))) (bCons_ok (sExpr_ok (xCall_ok (cGlob_ok (by kernel_rfl) (fun _ => by kernel_rfl) (by decide)) (fun _ => by kernel_rfl) (c__law_bent.mono (by decide)) (lCons_ok (dVar_ok 62 rfl (by decide)) (lCons_ok (dVar_ok 20 rfl (by decide)) (lCons_ok (dVar_ok 19 rfl (by decide)) (lNil_ok) rfl) rfl) rfl) rfl ⟨rfl, rfl⟩) rfl rfl) (bNil_ok)) rfl (fun _ _ => rfl) (fun _ => rfl)) (mCons_ok (sAss_ok (dX_ok (xCall_ok (cGlob_ok (by kernel_rfl) (fun _ => by kernel_rfl) (by decide)) (fun _ => by kernel_rfl) (c__law_blamed.mono (by decide)) (lCons_ok (dVar_ok 20 rfl (by decide)) (lCons_ok (dVar_ok 23 rfl (by decide)) (lCons_ok (dVar_ok 25 rfl (by decide)) (lCons_ok (dVar_ok 24 rfl (by decide)) (lCons_ok (dVar_ok 72 rfl (by decide)) (lNil_ok) rfl) rfl) rfl) rfl) rfl) rfl ⟨rfl, rfl⟩)) (gName_ok 69 rfl (by decide) (.inl (by kernel_rfl))) rfl rfl rfl) (mNil_ok)))))))))
            intro ρ₂ h₂ tk₂ S₂ I₂
            refine law_end W (ax_first (k := 20) K0 (by decide) (by decide)) I₂ rfl (xCall_ok (cGlob_ok (by kernel_rfl) (fun _ => by kernel_rfl) (by decide)) (fun _ => by kernel_rfl) (c_check_position.mono (by decide)) (lCons_ok (dVar_ok 20 rfl (by decide)) (lNil_ok) rfl) rfl ⟨rfl, rfl⟩) e2 e3 e4 rfl rfl (by kernel_rfl) (by kernel_rfl) (by kernel_rfl) rfl fun h₃ tk₃ st => ?_
            exact ⟨.inl ⟨_, _, _, rfl, fun _ => rfl, .bool true, by kernel_rfl, unshared_nil⟩, st, rfl, hg⟩)
end Mine
end
/-! part P1 -/
section
open PySem PySem.W PyProof.Rows
set_option maxRecDepth 100000
set_option maxHeartbeats 2000000
set_option linter.unusedVariables false
namespace Mine
theorem lot_ok {H : AH} {cells : List Int} {g n : Int} (h0 : H[0]? = some (.list (cells.map .int))) (h1 : H[1]? = some (.map [(63, .ref 0), (85, .int g)])) (hg : 0 ≤ g) (hg2 : g < 1000) (hn : 0 < n) (hc : cells.length ≤ 100) :
    ∃ r, 0 ≤ r ∧ r < n ∧ d__law_lot [.ref 1, .int n] H = some (.val (.int r), H.set 1 (.map [(63, .ref 0), (85, .int (g + 1))])) := by
  have l1 : 1 < H.length := (List.getElem?_eq_some_iff.mp h1).1
  have s1 : (H.set 1 (.map [(63, .ref 0), (85, .int (g + 1))]))[1]? = some (.map [(63, .ref 0), (85, .int (g + 1))]) := List.getElem?_set_self l1
  have s0 : (H.set 1 (.map [(63, .ref 0), (85, .int (g + 1))]))[0]? = some (.list (cells.map .int)) := by rw [List.getElem?_set_ne (by decide)]; exact h0
  have hc2 : cells.length ≤ 1000 := by omega
  by_cases hle : g + 1 ≤ cells.length
  · have hlt : g.toNat < cells.length := by omega
    refine ⟨(cells[g.toNat]).fmod n, Int.fmod_nonneg_of_pos _ hn, Int.fmod_lt_of_pos _ hn, ?_⟩
    have ix : idx? (cells.map .int) g = some (.int cells[g.toNat]) := by
      unfold idx?
      rw [if_pos (by unfold iOk; exact decide_eq_true (by omega)), if_pos hg]
      simp [hlt]
    simp [d__law_lot, fDef, b__law_lot, bCons, bNil, sAugK, dVar, lk, put, mapOf, h0, h1, s0, s1, dInt, oAdd, sAss, dKey, gName, sRet, dIf, dCmp, dLen, dBin, dItem, itemOf, oSub, oMod, outOf, kLe, hc2, hle, ix, Int.ne_of_gt hn, List.zip, List.zipWith]
  · refine ⟨0, Int.le_refl _, hn, ?_⟩
    simp [d__law_lot, fDef, b__law_lot, bCons, bNil, sAugK, dVar, lk, put, mapOf, h0, h1, s0, s1, dInt, oAdd, sAss, dKey, gName, sRet, dIf, dCmp, dLen, dBin, dItem, itemOf, oSub, oMod, outOf, kLe, hc2, hle, List.zip, List.zipWith]
end Mine
end
/-! part P3 -/
section
open PySem PySem.W PyProof.Rows
set_option maxRecDepth 100000
set_option maxHeartbeats 2000000
set_option linter.unusedVariables false
namespace Mine
noncomputable def mid34 : SD := (bCons (sAss (dX (xNew 275 d_IZobrist (lCons (dRep (dList (lCons (dRep (dList (lCons (dInt 0) (lNil))) (dVar 19)) (lNil))) (dInt 15)) (lCons (dRep (dList (lCons (dInt 0) (lNil))) (dVar 23)) (lCons (dRep (dList (lCons (dInt 0) (lNil))) (dInt 16)) (lCons (dInt 0) (lNil))))))) (gName 9))
  (bCons (sAss (dX (xNew 112 d_IPosition (lCons (dX (xCall d_make_geometry (lCons (dVar 23) (lCons (dVar 25) (lCons (dVar 24) (lCons (dVar 72) (lNil))))))) (lCons (dVar 9) (lNil))))) (gName 20)) bNil))
noncomputable def geoH0 : AH := [.list [.int 0],
  .list [.int 0, .int 0, .int 0, .int 0, .int 0, .int 0, .int 0, .int 0, .int 0, .int 0, .int 0, .int 0, .int 0, .int 0, .int 0, .int 0, .int 0, .int 0, .int 0, .int 0],
  .list [.ref 3],
  .list [.ref 3, .ref 3, .ref 3, .ref 3, .ref 3, .ref 3, .ref 3, .ref 3, .ref 3, .ref 3, .ref 3, .ref 3, .ref 3, .ref 3, .ref 3],
  .list [.int 0],
  .list [.int 0, .int 0, .int 0, .int 0],
  .list [.int 0],
  .list [.int 0, .int 0, .int 0, .int 0, .int 0, .int 0, .int 0, .int 0, .int 0, .int 0, .int 0, .int 0, .int 0, .int 0, .int 0, .int 0],
  .dict [(61, .ref 5), (14, .ref 7), (13, .ref 9), (5, .int 0)],
  .inst 275 10,
  .dict [(23, .int 4), (25, .int 5), (19, .int 20), (16, .int 1048575), (24, .bool true), (33, .bool false), (34, .ref 14), (29, .ref 15), (35, .ref 16), (36, .ref 25), (37, .ref 18), (26, .ref 21), (32, .ref 22), (38, .ref 43)],
  .inst 198 12,
  .list [.int 69905, .int 139810, .int 279620, .int 559240],
  .list [.int 15, .int 240, .int 3840, .int 61440, .int 983040],
  .list [.ref 27, .ref 29, .ref 31, .ref 33, .ref 35, .ref 37, .ref 39, .ref 41],
  .list [],
  .list [.int 576, .int 1408, .int 2576, .int 1056, .int 9220, .int 22536, .int 41217, .int 16898, .int 147522, .int 360581, .int 659482, .int 270372, .int 263200, .int 526416, .int 65952, .int 131648, .int 16896, .int 34048, .int 6656, .int 9216],
  .list [.int 32, .int 80, .int 160, .int 64, .int 512, .int 1280, .int 2560, .int 1024, .int 8192, .int 20480, .int 40960, .int 16384, .int 131072, .int 327680, .int 655360, .int 262144, .int 0, .int 0, .int 0, .int 0],
  .list [.int 0, .int 0, .int 0, .int 0, .int 2, .int 5, .int 10, .int 4, .int 32, .int 80, .int 160, .int 64, .int 512, .int 1280, .int 2560, .int 1024, .int 8192, .int 20480, .int 40960, .int 16384],
  .list [.ref 19, .ref 20],
  .list [.none, .none, .none, .none],
  .list [],
  .list [.int 0],
  .list [.int 50, .int 117, .int 234, .int 196, .int 803, .int 1879, .int 3758, .int 3148, .int 12848, .int 30064, .int 60128, .int 50368, .int 205568, .int 481024, .int 962048, .int 805888, .int 143360, .int 356352, .int 712704, .int 311296],
  .list [.int 0],
  .list [.int 69904, .int 139808, .int 279616, .int 559232, .int 69888, .int 139776, .int 279552, .int 559104, .int 69632, .int 139264, .int 278528, .int 557056, .int 65536, .int 131072, .int 262144, .int 524288, .int 0, .int 0, .int 0, .int 0],
  .list [.int 0],
  .list [.int 14, .int 12, .int 8, .int 0, .int 224, .int 192, .int 128, .int 0, .int 3584, .int 3072, .int 2048, .int 0, .int 57344, .int 49152, .int 32768, .int 0, .int 917504, .int 786432, .int 524288, .int 0],
  .list [.int 0],
  .list [.int 0, .int 0, .int 0, .int 0, .int 1, .int 2, .int 4, .int 8, .int 17, .int 34, .int 68, .int 136, .int 273, .int 546, .int 1092, .int 2184, .int 4369, .int 8738, .int 17476, .int 34952],
  .list [.int 0],
  .list [.int 0, .int 1, .int 3, .int 7, .int 0, .int 16, .int 48, .int 112, .int 0, .int 256, .int 768, .int 1792, .int 0, .int 4096, .int 12288, .int 28672, .int 0, .int 65536, .int 196608, .int 458752],
  .list [.int 0],
  .list [.int 33824, .int 2112, .int 128, .int 0, .int 541184, .int 33792, .int 2048, .int 0, .int 270336, .int 540672, .int 32768, .int 0, .int 131072, .int 262144, .int 524288, .int 0, .int 0, .int 0, .int 0, .int 0],
  .list [.int 0],
  .list [.int 0, .int 0, .int 0, .int 0, .int 2, .int 4, .int 8, .int 0, .int 36, .int 72, .int 128, .int 0, .int 584, .int 1152, .int 2048, .int 0, .int 9344, .int 18432, .int 32768, .int 0],
  .list [.int 0],
  .list [.int 0, .int 0, .int 0, .int 0, .int 0, .int 1, .int 2, .int 4, .int 0, .int 16, .int 33, .int 66, .int 0, .int 256, .int 528, .int 1057, .int 0, .int 4096, .int 8448, .int 16912],
  .list [.int 0],
  .list [.int 0, .int 16, .int 288, .int 4672, .int 0, .int 256, .int 4608, .int 74752, .int 0, .int 4096, .int 73728, .int 147456, .int 0, .int 65536, .int 131072, .int 262144, .int 0, .int 0, .int 0, .int 0],
  .list [.int 0],
  .list [.int 0, .int 0, .int 0, .int 0, .int 0, .int 0, .int 0, .int 0, .int 0, .int 0, .int 0, .int 0, .int 0, .int 0, .int 0, .int 0, .int 0, .int 0, .int 0, .int 0],
  .dict [(8, .ref 13), (9, .ref 11), (10, .ref 47), (11, .ref 49), (12, .ref 50), (5, .int 0), (13, .int 0), (14, .int (-1)), (15, .int 0), (16, .int 1), (17, .int 0), (18, .ref 51)],
  .inst 112 44,
  .list [.int 0],
  .list [.int 0, .int 0, .int 0, .int 0, .int 0, .int 0, .int 0, .int 0, .int 0, .int 0, .int 0, .int 0, .int 0, .int 0, .int 0, .int 0, .int 0, .int 0, .int 0, .int 0],
  .list [.int 0],
  .list [.int 0, .int 0, .int 0, .int 0, .int 0, .int 0, .int 0],
  .list [.int 0, .int 0],
  .list []]
theorem mid34_0 (X0 X1 : AO) (who : Int) : mid34 [(62, .ref 1), (23, .int 4), (25, .int 5), (24, .bool true), (72, .bool false), (19, .int 20), (64, .int who)] [X0, X1] =
    some (.next, [(62, .ref 1), (23, .int 4), (25, .int 5), (24, .bool true), (72, .bool false), (19, .int 20), (64, .int who), (9, .ref 11), (20, .ref 45)], X0 :: X1 :: geoH0) := by kernel_rfl
noncomputable def geoH1 : AH := [.list [.int 0],
  .list [.int 0, .int 0, .int 0, .int 0, .int 0, .int 0, .int 0, .int 0, .int 0, .int 0, .int 0, .int 0, .int 0, .int 0, .int 0, .int 0, .int 0, .int 0, .int 0, .int 0, .int 0],
  .list [.ref 3],
  .list [.ref 3, .ref 3, .ref 3, .ref 3, .ref 3, .ref 3, .ref 3, .ref 3, .ref 3, .ref 3, .ref 3, .ref 3, .ref 3, .ref 3, .ref 3],
  .list [.int 0],
  .list [.int 0, .int 0, .int 0, .int 0, .int 0, .int 0, .int 0],
  .list [.int 0],
  .list [.int 0, .int 0, .int 0, .int 0, .int 0, .int 0, .int 0, .int 0, .int 0, .int 0, .int 0, .int 0, .int 0, .int 0, .int 0, .int 0],
  .dict [(61, .ref 5), (14, .ref 7), (13, .ref 9), (5, .int 0)],
  .inst 275 10,
  .dict [(23, .int 7), (25, .int 3), (19, .int 21), (16, .int 2097151), (24, .bool false), (33, .bool true), (34, .ref 14), (29, .ref 15), (35, .ref 16), (36, .ref 25), (37, .ref 18), (26, .ref 21), (32, .ref 22), (38, .ref 43)],
  .inst 198 12,
  .list [.int 16513, .int 33026, .int 66052, .int 132104, .int 264208, .int 528416, .int 1056832],
  .list [.int 127, .int 16256, .int 2080768],
  .list [.ref 27, .ref 29, .ref 31, .ref 33, .ref 35, .ref 37, .ref 39, .ref 41],
  .list [],
  .list [.int 33280, .int 82944, .int 166016, .int 332032, .int 664064, .int 1311744, .int 526336, .int 65540, .int 131080, .int 278545, .int 557090, .int 1114180, .int 131080, .int 262160, .int 514, .int 1029, .int 2186, .int 4372, .int 8744, .int 1104, .int 2080],
  .list [.int 256, .int 640, .int 1280, .int 2560, .int 5120, .int 10240, .int 4096, .int 32768, .int 81920, .int 163840, .int 327680, .int 655360, .int 1310720, .int 524288, .int 0, .int 0, .int 0, .int 0, .int 0, .int 0, .int 0],
  .list [.int 0, .int 0, .int 0, .int 0, .int 0, .int 0, .int 0, .int 2, .int 5, .int 10, .int 20, .int 40, .int 80, .int 32, .int 256, .int 640, .int 1280, .int 2560, .int 5120, .int 10240, .int 4096],
  .list [.ref 19, .ref 20],
  .list [.tup [.int 3, .int 5, .int 6, .int 4], .tup [.int 3, .int 1, .int 0, .int 2], .tup [.int 17, .int 19, .int 20, .int 18], .tup [.int 17, .int 15, .int 14, .int 16]],
  .list [],
  .list [.int 0],
  .list [.int 386, .int 901, .int 1802, .int 3604, .int 7208, .int 14416, .int 12320, .int 49411, .int 115335, .int 230670, .int 461340, .int 922680, .int 1845360, .int 1577056, .int 33152, .int 82816, .int 165632, .int 331264, .int 662528, .int 1325056, .int 536576],
  .list [.int 0],
  .list [.int 16512, .int 33024, .int 66048, .int 132096, .int 264192, .int 528384, .int 1056768, .int 16384, .int 32768, .int 65536, .int 131072, .int 262144, .int 524288, .int 1048576, .int 0, .int 0, .int 0, .int 0, .int 0, .int 0, .int 0],
  .list [.int 0],
  .list [.int 126, .int 124, .int 120, .int 112, .int 96, .int 64, .int 0, .int 16128, .int 15872, .int 15360, .int 14336, .int 12288, .int 8192, .int 0, .int 2064384, .int 2031616, .int 1966080, .int 1835008, .int 1572864, .int 1048576, .int 0],
  .list [.int 0],
  .list [.int 0, .int 0, .int 0, .int 0, .int 0, .int 0, .int 0, .int 1, .int 2, .int 4, .int 8, .int 16, .int 32, .int 64, .int 129, .int 258, .int 516, .int 1032, .int 2064, .int 4128, .int 8256],
  .list [.int 0],
  .list [.int 0, .int 1, .int 3, .int 7, .int 15, .int 31, .int 63, .int 0, .int 128, .int 384, .int 896, .int 1920, .int 3968, .int 8064, .int 0, .int 16384, .int 49152, .int 114688, .int 245760, .int 507904, .int 1032192],
  .list [.int 0],
  .list [.int 65792, .int 131584, .int 263168, .int 526336, .int 1052672, .int 8192, .int 0, .int 32768, .int 65536, .int 131072, .int 262144, .int 524288, .int 1048576, .int 0, .int 0, .int 0, .int 0, .int 0, .int 0, .int 0, .int 0],
  .list [.int 0],
  .list [.int 0, .int 0, .int 0, .int 0, .int 0, .int 0, .int 0, .int 2, .int 4, .int 8, .int 16, .int 32, .int 64, .int 0, .int 260, .int 520, .int 1040, .int 2080, .int 4160, .int 8192, .int 0],
  .list [.int 0],
  .list [.int 0, .int 0, .int 0, .int 0, .int 0, .int 0, .int 0, .int 0, .int 1, .int 2, .int 4, .int 8, .int 16, .int 32, .int 0, .int 128, .int 257, .int 514, .int 1028, .int 2056, .int 4112],
  .list [.int 0],
  .list [.int 0, .int 128, .int 16640, .int 33280, .int 66560, .int 133120, .int 266240, .int 0, .int 16384, .int 32768, .int 65536, .int 131072, .int 262144, .int 524288, .int 0, .int 0, .int 0, .int 0, .int 0, .int 0, .int 0],
  .list [.int 0],
  .list [.int 2, .int 0, .int 0, .int 3, .int 0, .int 0, .int 1, .int 0, .int 0, .int 0, .int 0, .int 0, .int 0, .int 0, .int 8, .int 0, .int 0, .int 12, .int 0, .int 0, .int 4],
  .dict [(8, .ref 13), (9, .ref 11), (10, .ref 47), (11, .ref 49), (12, .ref 50), (5, .int 0), (13, .int 0), (14, .int (-1)), (15, .int 0), (16, .int 1), (17, .int 0), (18, .ref 51)],
  .inst 112 44,
  .list [.int 0],
  .list [.int 0, .int 0, .int 0, .int 0, .int 0, .int 0, .int 0, .int 0, .int 0, .int 0, .int 0, .int 0, .int 0, .int 0, .int 0, .int 0, .int 0, .int 0, .int 0, .int 0, .int 0],
  .list [.int 0],
  .list [.int 0, .int 0, .int 0, .int 0, .int 0, .int 0, .int 0],
  .list [.int 0, .int 0],
  .list []]
theorem mid34_1 (X0 X1 : AO) (who : Int) : mid34 [(62, .ref 1), (23, .int 7), (25, .int 3), (24, .bool false), (72, .bool true), (19, .int 21), (64, .int who)] [X0, X1] =
    some (.next, [(62, .ref 1), (23, .int 7), (25, .int 3), (24, .bool false), (72, .bool true), (19, .int 21), (64, .int who), (9, .ref 11), (20, .ref 45)], X0 :: X1 :: geoH1) := by kernel_rfl
noncomputable def geoH2 : AH := [.list [.int 0],
  .list [.int 0, .int 0, .int 0, .int 0, .int 0, .int 0, .int 0, .int 0, .int 0, .int 0, .int 0, .int 0, .int 0, .int 0, .int 0, .int 0, .int 0, .int 0],
  .list [.ref 3],
  .list [.ref 3, .ref 3, .ref 3, .ref 3, .ref 3, .ref 3, .ref 3, .ref 3, .ref 3, .ref 3, .ref 3, .ref 3, .ref 3, .ref 3, .ref 3],
  .list [.int 0],
  .list [.int 0, .int 0, .int 0, .int 0, .int 0, .int 0],
  .list [.int 0],
  .list [.int 0, .int 0, .int 0, .int 0, .int 0, .int 0, .int 0, .int 0, .int 0, .int 0, .int 0, .int 0, .int 0, .int 0, .int 0, .int 0],
  .dict [(61, .ref 5), (14, .ref 7), (13, .ref 9), (5, .int 0)],
  .inst 275 10,
  .dict [(23, .int 6), (25, .int 3), (19, .int 18), (16, .int 262143), (24, .bool false), (33, .bool true), (34, .ref 14), (29, .ref 15), (35, .ref 16), (36, .ref 25), (37, .ref 18), (26, .ref 21), (32, .ref 22), (38, .ref 43)],
  .inst 198 12,
  .list [.int 4161, .int 8322, .int 16644, .int 33288, .int 66576, .int 133152],
  .list [.int 63, .int 4032, .int 258048],
  .list [.ref 27, .ref 29, .ref 31, .ref 33, .ref 35, .ref 37, .ref 39, .ref 41],
  .list [],
  .list [.int 8448, .int 20992, .int 42048, .int 84096, .int 164096, .int 66048, .int 16388, .int 32776, .int 69649, .int 139298, .int 16388, .int 32776, .int 258, .int 517, .int 1098, .int 2196, .int 296, .int 528],
  .list [.int 128, .int 320, .int 640, .int 1280, .int 2560, .int 1024, .int 8192, .int 20480, .int 40960, .int 81920, .int 163840, .int 65536, .int 0, .int 0, .int 0, .int 0, .int 0, .int 0],
  .list [.int 0, .int 0, .int 0, .int 0, .int 0, .int 0, .int 2, .int 5, .int 10, .int 20, .int 40, .int 16, .int 128, .int 320, .int 640, .int 1280, .int 2560, .int 1024],
  .list [.ref 19, .ref 20],
  .list [.none, .tup [.int 3, .int 1, .int 0, .int 2], .none, .tup [.int 15, .int 13, .int 12, .int 14]],
  .list [],
  .list [.int 0],
  .list [.int 194, .int 453, .int 906, .int 1812, .int 3624, .int 3088, .int 12419, .int 28999, .int 57998, .int 115996, .int 231992, .int 197680, .int 8384, .int 20928, .int 41856, .int 83712, .int 167424, .int 68608],
  .list [.int 0],
  .list [.int 4160, .int 8320, .int 16640, .int 33280, .int 66560, .int 133120, .int 4096, .int 8192, .int 16384, .int 32768, .int 65536, .int 131072, .int 0, .int 0, .int 0, .int 0, .int 0, .int 0],
  .list [.int 0],
  .list [.int 62, .int 60, .int 56, .int 48, .int 32, .int 0, .int 3968, .int 3840, .int 3584, .int 3072, .int 2048, .int 0, .int 253952, .int 245760, .int 229376, .int 196608, .int 131072, .int 0],
  .list [.int 0],
  .list [.int 0, .int 0, .int 0, .int 0, .int 0, .int 0, .int 1, .int 2, .int 4, .int 8, .int 16, .int 32, .int 65, .int 130, .int 260, .int 520, .int 1040, .int 2080],
  .list [.int 0],
  .list [.int 0, .int 1, .int 3, .int 7, .int 15, .int 31, .int 0, .int 64, .int 192, .int 448, .int 960, .int 1984, .int 0, .int 4096, .int 12288, .int 28672, .int 61440, .int 126976],
  .list [.int 0],
  .list [.int 16512, .int 33024, .int 66048, .int 132096, .int 2048, .int 0, .int 8192, .int 16384, .int 32768, .int 65536, .int 131072, .int 0, .int 0, .int 0, .int 0, .int 0, .int 0, .int 0],
  .list [.int 0],
  .list [.int 0, .int 0, .int 0, .int 0, .int 0, .int 0, .int 2, .int 4, .int 8, .int 16, .int 32, .int 0, .int 132, .int 264, .int 528, .int 1056, .int 2048, .int 0],
  .list [.int 0],
  .list [.int 0, .int 0, .int 0, .int 0, .int 0, .int 0, .int 0, .int 1, .int 2, .int 4, .int 8, .int 16, .int 0, .int 64, .int 129, .int 258, .int 516, .int 1032],
  .list [.int 0],
  .list [.int 0, .int 64, .int 4224, .int 8448, .int 16896, .int 33792, .int 0, .int 4096, .int 8192, .int 16384, .int 32768, .int 65536, .int 0, .int 0, .int 0, .int 0, .int 0, .int 0],
  .list [.int 0],
  .list [.int 2, .int 0, .int 0, .int 2, .int 0, .int 0, .int 0, .int 0, .int 0, .int 0, .int 0, .int 0, .int 8, .int 0, .int 0, .int 8, .int 0, .int 0],
  .dict [(8, .ref 13), (9, .ref 11), (10, .ref 47), (11, .ref 49), (12, .ref 50), (5, .int 0), (13, .int 0), (14, .int (-1)), (15, .int 0), (16, .int 1), (17, .int 0), (18, .ref 51)],
  .inst 112 44,
  .list [.int 0],
  .list [.int 0, .int 0, .int 0, .int 0, .int 0, .int 0, .int 0, .int 0, .int 0, .int 0, .int 0, .int 0, .int 0, .int 0, .int 0, .int 0, .int 0, .int 0],
  .list [.int 0],
  .list [.int 0, .int 0, .int 0, .int 0, .int 0, .int 0, .int 0],
  .list [.int 0, .int 0],
  .list []]
theorem mid34_2 (X0 X1 : AO) (who : Int) : mid34 [(62, .ref 1), (23, .int 6), (25, .int 3), (24, .bool false), (72, .bool true), (19, .int 18), (64, .int who)] [X0, X1] =
    some (.next, [(62, .ref 1), (23, .int 6), (25, .int 3), (24, .bool false), (72, .bool true), (19, .int 18), (64, .int who), (9, .ref 11), (20, .ref 45)], X0 :: X1 :: geoH2) := by kernel_rfl
end Mine
end
/-! part P5 -/
section
open PySem PySem.W PyProof.Rows
set_option maxRecDepth 100000
set_option linter.unusedVariables false
namespace Mine
/-! the bits of an int (two's complement without end) -/
noncomputable def bt (x : Int) (i : Nat) : Bool := decide (x / 2 ^ i % 2 = 1)
theorem p2_pos (k : Nat) : (0 : Int) < 2 ^ k := Int.pow_pos (by decide)
theorem p2_le {n i : Nat} (h : n ≤ i) : (2 : Int) ^ n ≤ 2 ^ i := by
  rw [← kbt_cast, ← kbt_cast]; exact Int.ofNat_le.mpr (Nat.pow_le_pow_right (by decide) h)
theorem bt_zero (i : Nat) : bt 0 i = false := by simp [bt]
theorem bt_half (x : Int) (i : Nat) : bt x (i + 1) = bt (x / 2) i := by
  unfold bt
  rw [Int.pow_succ, Int.mul_comm, Int.ediv_ediv_of_nonneg (by decide : (0:Int) ≤ 2)] <;> rfl
theorem bt_lsb (x : Int) : bt x 0 = decide (x % 2 = 1) := by simp [bt]
theorem and_half (x y : Int) : Builtin.bitAnd x y / 2 = Builtin.bitAnd (x / 2) (y / 2) ∧ Builtin.bitAnd x y % 2 = (if x % 2 = 1 ∧ y % 2 = 1 then 1 else 0) := by
  have h := kbt_halves x y
  split at h <;> rename_i c
  · rw [if_pos c]; omega
  · rw [if_neg c]; omega
theorem bt_and (x y : Int) (i : Nat) : bt (Builtin.bitAnd x y) i = (bt x i && bt y i) := by
  induction i generalizing x y with
  | zero =>
    rw [bt_lsb, bt_lsb, bt_lsb, (and_half x y).2]
    by_cases a : x % 2 = 1 <;> by_cases b : y % 2 = 1 <;> simp [a, b]
  | succ i ih => rw [bt_half, bt_half, bt_half, (and_half x y).1, ih]
theorem bt_not (x : Int) (i : Nat) : bt (Builtin.bitNot x) i = !bt x i := by
  induction i generalizing x with
  | zero =>
    rw [bt_lsb, bt_lsb, kbt_not]
    by_cases a : x % 2 = 1
    · rw [decide_eq_true a, decide_eq_false (by omega)]; rfl
    · rw [decide_eq_false a, decide_eq_true (by omega)]; rfl
  | succ i ih =>
    rw [bt_half, bt_half, ← ih]
    congr 1
    rw [kbt_not, kbt_not]; omega
theorem bt_or (x y : Int) (i : Nat) : bt (Builtin.bitOr x y) i = (bt x i || bt y i) := by
  unfold Builtin.bitOr
  rw [bt_not, bt_and, bt_not, bt_not]
  cases bt x i <;> cases bt y i <;> rfl
theorem xor_half (x y : Int) : Builtin.bitXor x y / 2 = Builtin.bitXor (x / 2) (y / 2) ∧ Builtin.bitXor x y % 2 = (if x % 2 = y % 2 then 0 else 1) := by
  have h := kbt_halves x y
  rw [bitXor_and, bitXor_and]
  split at h <;> rename_i c
  · rw [if_pos (by omega)]; omega
  · by_cases d : x % 2 = y % 2
    · rw [if_pos d]; omega
    · rw [if_neg d]; omega
theorem bt_xor (x y : Int) (i : Nat) : bt (Builtin.bitXor x y) i = (bt x i ^^ bt y i) := by
  induction i generalizing x y with
  | zero =>
    rw [bt_lsb, bt_lsb, bt_lsb, (xor_half x y).2]
    have hx : x % 2 = 0 ∨ x % 2 = 1 := by omega
    have hy : y % 2 = 0 ∨ y % 2 = 1 := by omega
    rcases hx with a | a <;> rcases hy with b | b <;> simp [a, b]
  | succ i ih => rw [bt_half, bt_half, bt_half, (xor_half x y).1, ih]
/-- within [0, 2^n): no bit from n on -/
theorem bt_range (x : Int) (n : Nat) : (0 ≤ x ∧ x < 2 ^ n) ↔ ∀ i, n ≤ i → bt x i = false := by
  constructor
  · intro ⟨h0, h1⟩ i hi
    have : x < 2 ^ i := Int.lt_of_lt_of_le h1 (p2_le hi)
    unfold bt
    rw [Int.ediv_eq_zero_of_lt h0 this]; rfl
  · intro h
    induction n generalizing x with
    | zero =>
      -- all bits 0
      have key : ∀ m : Nat, ∀ y : Int, y.natAbs ≤ m → (∀ i, bt y i = false) → y = 0 := by
        intro m
        induction m with
        | zero => intro y hy _; omega
        | succ m ih =>
          intro y hy hb
          have h0 := hb 0
          rw [bt_lsb] at h0
          have h0 := of_decide_eq_false h0
          by_cases hz : y = 0
          · exact hz
          have : y / 2 = 0 := ih (y / 2) (by omega) (fun i => by rw [← bt_half]; exact hb _)
          omega
      have := key _ x (Nat.le_refl _) (fun i => h i (Nat.zero_le _))
      subst this; exact ⟨Int.le_refl _, by decide⟩
    | succ n ih =>
      have := ih (x / 2) (fun i hi => by rw [← bt_half]; exact h _ (by omega))
      have e : (2 : Int) ^ (n + 1) = 2 * 2 ^ n := by rw [Int.pow_succ, Int.mul_comm]
      rw [e]; omega
theorem bt_eq_zero (x : Int) : x = 0 ↔ ∀ i, bt x i = false := by
  constructor
  · rintro rfl i; exact bt_zero i
  · intro h
    have := (bt_range x 0).mpr (fun i _ => h i)
    omega
theorem bt_pow (k i : Nat) : bt (2 ^ k) i = decide (i = k) := by
  induction i generalizing k with
  | zero =>
    rw [bt_lsb]
    cases k with
    | zero => rfl
    | succ k =>
      rw [Int.pow_succ, Int.mul_emod_left]; simp
  | succ i ih =>
    rw [bt_half]
    cases k with
    | zero => rw [show ((2:Int) ^ 0) / 2 = 0 from rfl, bt_zero]; simp
    | succ k => rw [Int.pow_succ, Int.mul_ediv_cancel _ (by decide), ih]; simp
theorem fdiv_p2 (x : Int) (k : Nat) : x.fdiv (2 ^ k) = x / 2 ^ k := Int.fdiv_eq_ediv_of_nonneg _ (Int.le_of_lt (p2_pos k))
theorem bt_shr (x : Int) (i : Nat) : (x.fdiv (2 ^ i)).fmod 2 = if bt x i then 1 else 0 := by
  rw [fdiv_p2, Int.fmod_eq_emod_of_nonneg _ (by decide : (0:Int) ≤ 2)]
  unfold bt
  by_cases h : x / 2 ^ i % 2 = 1
  · rw [decide_eq_true h, if_pos rfl, h]
  · rw [decide_eq_false h, if_neg (by decide)]; omega
end Mine
end
/-! part P6 -/
section
open PySem PySem.W PyProof.Rows
set_option maxRecDepth 100000
set_option linter.unusedVariables false
namespace Mine
noncomputable def hiT1 : TD := dTru (dBin oShr (dVar 0) (dVar 1))
noncomputable def hiB1 : SD := bCons (sAugN oMul 1 (dInt 2)) bNil
noncomputable def hiT2 : TD := dCmp kGt (dVar 1) (dInt 1)
noncomputable def hiB2 : SD := bCons (sAugN oDiv 1 (dInt 2)) (bCons (sIf (dTru (dBin oShr (dVar 0) (dVar 1))) (bCons (sAugN oShr 0 (dVar 1)) (bCons (sAugN oAdd 2 (dVar 1)) bNil)) bNil) bNil)
theorem oShr_nat (x : Int) (w : Nat) : oShr x w = some (x / 2 ^ w) := by
  unfold oShr
  rw [if_pos (by omega), Int.toNat_natCast, fdiv_p2]
theorem div_zero_iff {b : Int} (hb : 0 < b) (w : Nat) : b / 2 ^ w = 0 ↔ b < 2 ^ w := by
  constructor
  · intro h
    have := Int.mul_ediv_add_emod b (2 ^ w)
    rw [h] at this
    have h2 := Int.emod_lt_of_pos b (p2_pos w)
    omega
  · intro h; exact Int.ediv_eq_zero_of_lt (Int.le_of_lt hb) h
theorem dWhile_t {t : TD} {b : SD} {n : Nat} {σ σ₂ : AS} {H H₁ H₂ : AH} (ht : t σ H = some (true, H₁)) (hb : b σ H₁ = some (.next, σ₂, H₂)) : dWhile t b (n + 1) σ H = dWhile t b n σ₂ H₂ := by
  simp only [dWhile, ht, hb]
theorem hiT2_ok (c W s : Int) (H : AH) (h : 1 < W) : hiT2 [(0, .int c), (1, .int W), (2, .int s)] H = some (true, H) := by
  simp [hiT2, dCmp, dVar, lk, dInt, kGt, h]
theorem hiB2_lo (c W s : Int) (w : Nat) (H : AH) (hq : W.fdiv 2 = w) (z : c / 2 ^ w = 0) : hiB2 [(0, .int c), (1, .int W), (2, .int s)] H = some (.next, [(0, .int c), (1, .int w), (2, .int s)], H) := by
  have hd : smD 2 = true := by decide
  simp [hiB2, bCons, bNil, sAugN, lk, dInt, oDiv, hd, hq, put, sIf, dTru, dBin, dVar, oShr_nat, z, truth]
theorem hiB2_hi (c W s : Int) (w : Nat) (H : AH) (hq : W.fdiv 2 = w) (z : c / 2 ^ w ≠ 0) : hiB2 [(0, .int c), (1, .int W), (2, .int s)] H = some (.next, [(0, .int (c / 2 ^ w)), (1, .int w), (2, .int (s + w))], H) := by
  have hd : smD 2 = true := by decide
  simp [hiB2, bCons, bNil, sAugN, lk, dInt, oDiv, hd, hq, put, sIf, dTru, dBin, dVar, oShr_nat, z, truth, oAdd]
theorem hi_loop1 {b : Int} (hb : 0 < b) (H : AH) : ∀ (n w : Nat), w * 2 ^ n ≤ 1000 → b < 2 ^ (w * 2 ^ n) →
    ∃ j, j ≤ n ∧ dWhile hiT1 hiB1 (n + 1) [(0, .int b), (1, .int w)] H = some (.next, [(0, .int b), (1, .int (w * 2 ^ j : Nat))], H) ∧ b < 2 ^ (w * 2 ^ j) := by
  intro n
  induction n with
  | zero =>
    intro w hw h
    refine ⟨0, Nat.le_refl _, ?_, h⟩
    rw [Nat.pow_zero, Nat.mul_one] at h ⊢
    have : b / 2 ^ w = 0 := (div_zero_iff hb w).mpr h
    simp [dWhile, hiT1, dTru, dBin, dVar, lk, oShr_nat, this, truth]
  | succ n ih =>
    intro w hw h
    by_cases c : b < 2 ^ w
    · refine ⟨0, Nat.zero_le _, ?_, by simpa using c⟩
      have : b / 2 ^ w = 0 := (div_zero_iff hb w).mpr c
      simp [dWhile, hiT1, dTru, dBin, dVar, lk, oShr_nat, this, truth]
    · have e : w * 2 ^ (n + 1) = w * 2 * 2 ^ n := by rw [Nat.pow_succ, Nat.mul_assoc, Nat.mul_comm 2]
      obtain ⟨j, hj, hr, hl⟩ := ih (w * 2) (by rw [← e]; exact hw) (by rw [← e]; exact h)
      have e' : w * 2 ^ (j + 1) = w * 2 * 2 ^ j := by rw [Nat.pow_succ, Nat.mul_assoc, Nat.mul_comm 2]
      refine ⟨j + 1, by omega, ?_, by rw [e']; exact hl⟩
      have nz : b / 2 ^ w ≠ 0 := fun x => c ((div_zero_iff hb w).mp x)
      have hw1 : w ≤ 1000 := Nat.le_trans (Nat.le_mul_of_pos_right w (Nat.pow_pos (by decide))) hw
      have hs : sm (w : Int) = true := by unfold sm; exact decide_eq_true (by omega)
      have ht : hiT1 [(0, .int b), (1, .int w)] H = some (true, H) := by
        simp [hiT1, dTru, dBin, dVar, lk, oShr_nat, truth, nz]
      have hB : hiB1 [(0, .int b), (1, .int w)] H = some (.next, [(0, .int b), (1, .int (w * 2 : Nat))], H) := by
        simp [hiB1, bCons, bNil, sAugN, lk, dInt, oMul, hs, put]
      rw [dWhile_t ht hB, hr, e']
theorem hi_loop2 (H : AH) : ∀ (j n : Nat) (c : Int) (s : Nat), j < n → j ≤ 9 → 0 < c → c < 2 ^ (2 ^ j) →
    ∃ t : Nat, dWhile hiT2 hiB2 n [(0, .int c), (1, .int (2 ^ j : Nat)), (2, .int s)] H = some (.next, [(0, .int 1), (1, .int 1), (2, .int (s + t : Nat))], H) ∧ c / 2 ^ t = 1 := by
  intro j
  induction j with
  | zero =>
    intro n c s hn _ h0 h1
    obtain ⟨n, rfl⟩ : ∃ m, n = m + 1 := ⟨n - 1, by omega⟩
    have : c = 1 := by
      have : c < 2 := h1
      omega
    subst this
    exact ⟨0, by simp [dWhile, hiT2, dCmp, dVar, lk, dInt, kGt], rfl⟩
  | succ j ih =>
    intro n c s hn hj h0 h1
    obtain ⟨n, rfl⟩ : ∃ m, n = m + 1 := ⟨n - 1, by omega⟩
    have hp : (2 : Nat) ^ (j + 1) = 2 ^ j * 2 := Nat.pow_succ ..
    have p1 : 1 ≤ 2 ^ j := Nat.pow_pos (by decide)
    have ht := hiT2_ok c ((2 ^ (j + 1) : Nat) : Int) s H (by omega)
    have hq : ((2 ^ (j + 1) : Nat) : Int).fdiv 2 = ((2 ^ j : Nat) : Int) := by
      rw [Int.fdiv_eq_ediv_of_nonneg _ (by decide)]; omega
    by_cases cc : c < 2 ^ (2 ^ j)
    · obtain ⟨t, hr, hl⟩ := ih n c s (by omega) (by omega) h0 cc
      refine ⟨t, ?_, hl⟩
      have z : c / 2 ^ (2 ^ j) = 0 := (div_zero_iff h0 _).mpr cc
      rw [dWhile_t ht (hiB2_lo c _ s _ H hq z), hr]
    · have nz : c / 2 ^ (2 ^ j) ≠ 0 := fun x => cc ((div_zero_iff h0 _).mp x)
      have cp : 0 < c / 2 ^ (2 ^ j) := by
        have := Int.ediv_nonneg (Int.le_of_lt h0) (Int.le_of_lt (p2_pos (2 ^ j))); omega
      have cl : c / 2 ^ (2 ^ j) < 2 ^ (2 ^ j) := by
        refine Int.ediv_lt_of_lt_mul (p2_pos _) ?_
        rw [← Int.pow_add, show 2 ^ j + 2 ^ j = 2 ^ (j + 1) by omega]; exact h1
      obtain ⟨t, hr, hl⟩ := ih n (c / 2 ^ (2 ^ j)) (s + 2 ^ j) (by omega) (by omega) cp cl
      refine ⟨2 ^ j + t, ?_, ?_⟩
      · rw [dWhile_t ht (hiB2_hi c _ s _ H hq nz), ← Int.natCast_add, hr, Nat.add_assoc]
      · rw [Int.pow_add, ← Int.ediv_ediv_of_nonneg (Int.le_of_lt (p2_pos _))]; exact hl
theorem highest_ok {b : Int} (hb : 0 < b) (hl : b < 2 ^ 64) (H : AH) : ∃ q : Nat, d_highest [.int b] H = some (.val (.int q), H) ∧ b / 2 ^ q = 1 := by
  obtain ⟨j, hj, h1, hj2⟩ := hi_loop1 hb H 7 1 (by decide) (by simp only [Nat.one_mul]; exact Int.lt_of_lt_of_le hl (p2_le (by decide)))
  simp only [Nat.one_mul] at h1 hj2
  obtain ⟨t, h2, ht⟩ := hi_loop2 H j 8 b 0 (by omega) (by omega) hb hj2
  refine ⟨t, ?_, ht⟩
  have nz : b ≠ 0 := by omega
  have e1 : b_highest = bCons (sIf (dCmp kEq (dVar 0) (dInt 0)) (bCons (sRet (dNeg (dInt 1))) bNil) bNil) (bCons (sAss (dInt 1) (gName 1)) (bCons (dWhile hiT1 hiB1 8) (bCons (sAss (dInt 0) (gName 2)) (bCons (dWhile hiT2 hiB2 8) (bCons (sRet (dVar 2)) bNil))))) := rfl
  have h1' : dWhile hiT1 hiB1 8 [(0, .int b), (1, .int 1)] H = some (.next, [(0, .int b), (1, .int (2 ^ j : Nat))], H) := h1
  have h2' : dWhile hiT2 hiB2 8 [(0, .int b), (1, .int (2 ^ j : Nat)), (2, .int 0)] H = some (.next, [(0, .int 1), (1, .int 1), (2, .int t)], H) := by
    have := h2; rw [Nat.zero_add] at this; exact this
  have h2'' : dWhile hiT2 hiB2 8 (put 2 (.int 0) [(0, .int b), (1, .int (2 ^ j : Nat))]) H = some (.next, [(0, .int 1), (1, .int 1), (2, .int t)], H) := h2'
  simp only [d_highest, fDef, e1, List.length_cons, List.length_nil, reduceIte, List.zip, List.zipWith, bCons, sIf, dCmp, dVar, lk, dInt, kEq, decide_eq_false nz, bNil, sAss, gName, put, Nat.reduceEqDiff, h1']
  generalize (((2 ^ j : Nat)) : Int) = W at *
  rw [h2']
  simp [sRet, dVar, lk, outOf]
end Mine
end
/-! part P7 -/
section
open PySem PySem.W PyProof.Rows
set_option maxRecDepth 100000
set_option linter.unusedVariables false
namespace Mine
theorem div_div_p (x : Int) (a b : Nat) : x / 2 ^ a / 2 ^ b = x / 2 ^ (a + b) := by
  rw [Int.pow_add, Int.ediv_ediv_of_nonneg (Int.le_of_lt (p2_pos _))]
theorem top_bits {b : Int} {q : Nat} (h : b / 2 ^ q = 1) : bt b q = true ∧ ∀ i, q < i → bt b i = false := by
  refine ⟨by unfold bt; rw [h]; rfl, fun i hi => ?_⟩
  obtain ⟨d, rfl⟩ : ∃ d, i = q + (d + 1) := ⟨i - q - 1, by omega⟩
  unfold bt
  rw [← div_div_p, h, Int.ediv_eq_zero_of_lt (by decide) (Int.lt_of_lt_of_le (by decide : (1:Int) < 2 ^ 1) (p2_le (by omega)))]
  rfl
/-- the highest bit -/
theorem highest_bits {b : Int} (hb : 0 < b) (hl : b < 2 ^ 64) (H : AH) : ∃ q : Nat, d_highest [.int b] H = some (.val (.int q), H) ∧ bt b q = true ∧ ∀ i, q < i → bt b i = false := by
  obtain ⟨q, h, e⟩ := highest_ok hb hl H
  exact ⟨q, h, top_bits e⟩
/-- an odd part and a power -/
theorem odd_part : ∀ (n : Nat) (b : Int), b ≠ 0 → b.natAbs ≤ n → ∃ (k : Nat) (a : Int), b = 2 ^ k * (2 * a + 1) := by
  intro n
  induction n with
  | zero => intro b h h'; omega
  | succ n ih =>
    intro b h h'
    by_cases c : b % 2 = 1
    · exact ⟨0, b / 2, by rw [Int.pow_zero]; omega⟩
    · obtain ⟨k, a, e⟩ := ih (b / 2) (by omega) (by omega)
      refine ⟨k + 1, a, ?_⟩
      have hb : b = b / 2 * 2 := by omega
      rw [hb, e, Int.pow_succ, Int.mul_assoc, Int.mul_assoc, Int.mul_comm (2 * a + 1) 2]
theorem bt_mulp (m r : Int) (k i : Nat) (h0 : 0 ≤ r) (h1 : r < 2 ^ k) : bt (2 ^ k * m + r) (k + i) = bt m i := by
  unfold bt
  rw [← div_div_p, Int.add_comm, Int.add_mul_ediv_left _ _ (Int.ne_of_gt (p2_pos k)), Int.ediv_eq_zero_of_lt h0 h1, Int.zero_add]
theorem bt_mulp_lo (m r : Int) (k i : Nat) (h : i < k) : bt (2 ^ k * m + r) i = bt r i := by
  unfold bt
  obtain ⟨d, rfl⟩ : ∃ d, k = i + (d + 1) := ⟨k - i - 1, by omega⟩
  rw [Int.pow_add, Int.mul_assoc, Int.add_comm, Int.add_mul_ediv_left _ _ (Int.ne_of_gt (p2_pos i)), Int.pow_succ, Int.mul_comm (2 ^ d) 2, Int.mul_assoc]
  congr 1
  exact propext ⟨fun h => by omega, fun h => by omega⟩
theorem bt_low (k : Nat) (a : Int) : bt (2 ^ k * (2 * a + 1)) k = true ∧ ∀ i, i < k → bt (2 ^ k * (2 * a + 1)) i = false := by
  constructor
  · have := bt_mulp (2 * a + 1) 0 k 0 (Int.le_refl _) (p2_pos k)
    rw [Int.add_zero, Nat.add_zero] at this
    rw [this, bt_lsb]; exact decide_eq_true (by omega)
  · intro i hi
    have := bt_mulp_lo (2 * a + 1) 0 k i hi
    rw [Int.add_zero] at this
    rw [this, bt_zero]
theorem d_lowest_eq (b : Int) (H : AH) {q : Int} {b' : Int} (hb : Builtin.bitAnd b (-b) = b') (h : d_highest [.int b'] H = some (.val (.int q), H)) : d_lowest [.int b] H = some (.val (.int q), H) := by
  simp [d_lowest, fDef, b_lowest, bCons, sRet, dX, xCall, lCons, lNil, dBin, dVar, lk, dNeg, oAnd, hb, h, outOf, List.zip, List.zipWith]
/-- the lowest bit -/
theorem lowest_bits {b : Int} (hb : 0 < b) (hl : b < 2 ^ 64) (H : AH) : ∃ k : Nat, d_lowest [.int b] H = some (.val (.int k), H) ∧ bt b k = true ∧ ∀ i, i < k → bt b i = false := by
  obtain ⟨k, a, rfl⟩ := odd_part _ b (by omega) (Nat.le_refl _)
  obtain ⟨t1, t2⟩ := bt_low k a
  have hk : k < 64 := by
    by_cases c : k < 64
    · exact c
    · have := (bt_range _ 64).mp ⟨Int.le_of_lt hb, hl⟩ k (by omega)
      rw [t1] at this; cases this
  have hp : (2 : Int) ^ k < 2 ^ 64 := by
    have h1 : (2 : Int) ^ k ≤ 2 ^ 63 := p2_le (by omega)
    have h2 : (2 : Int) ^ 63 < 2 ^ 64 := by decide
    omega
  obtain ⟨q, h, e⟩ := highest_ok (p2_pos k) hp H
  have b1 := (top_bits e).1
  rw [bt_pow] at b1
  have : q = k := of_decide_eq_true b1
  subst this
  exact ⟨q, d_lowest_eq _ H (kbt_low q a) h, t1, t2⟩
/-- more than one bit -/
theorem mto_val (b : Int) (H : AH) : d_more_than_one [.int b] H = some (.val (.bool (!decide (Builtin.bitAnd b (b - 1) = 0))), H) := by
  simp [d_more_than_one, fDef, b_more_than_one, bCons, sRet, dVal, dCmp, kNe, dBin, dVar, lk, dInt, oAnd, oSub, outOf, List.zip, List.zipWith]
theorem mto_bits {b : Int} {k : Nat} (h : bt b k = true) (hlo : ∀ i, i < k → bt b i = false) (i : Nat) : bt (Builtin.bitAnd b (b - 1)) i = (bt b i && !decide (i = k)) := by
  have nz : b ≠ 0 := by intro e; rw [e, bt_zero] at h; cases h
  obtain ⟨k', a, e⟩ := odd_part _ b nz (Nat.le_refl _)
  obtain ⟨t1, t2⟩ := bt_low k' a
  rw [← e] at t1 t2
  have : k' = k := by
    rcases Nat.lt_trichotomy k' k with c | c | c
    · rw [hlo k' c] at t1; cases t1
    · exact c
    · rw [t2 k c] at h; cases h
  subst this
  rw [bt_and]
  by_cases c : i < k'
  · rw [t2 i c]; rfl
  · obtain ⟨d, rfl⟩ : ∃ d, i = k' + d := ⟨i - k', by omega⟩
    have e2 : b - 1 = 2 ^ k' * (2 * a) + (2 ^ k' - 1) := by
      rw [e, Int.mul_add, Int.mul_one]; omega
    have p := p2_pos k'
    have e3 : b = 2 ^ k' * (2 * a + 1) + 0 := by rw [e, Int.add_zero]
    rw [e2, bt_mulp _ _ _ _ (by omega) (by omega)]
    rw [e3, bt_mulp _ _ _ _ (Int.le_refl _) p]
    cases d with
    | zero => rw [bt_lsb, bt_lsb, decide_eq_false (by omega : ¬ (2 * a % 2 = 1))]; simp
    | succ d =>
      rw [bt_half, bt_half, show (2 * a + 1) / 2 = a by omega, show 2 * a / 2 = a by omega, decide_eq_false (by omega)]
      simp
end Mine
end
/-! part P8 -/
section
open PySem PySem.W PyProof.Rows
set_option maxRecDepth 100000
set_option linter.unusedVariables false
namespace Mine
/-- the three forms of the law -/
inductive Fm | a | b | c
namespace Fm
noncomputable def F : Fm → Int | a => 4 | b => 7 | c => 6
noncomputable def Rk : Fm → Int | a => 5 | b => 3 | c => 3
noncomputable def N : Fm → Nat | a => 20 | b => 21 | c => 18
noncomputable def full : Fm → Int | a => 1048575 | b => 2097151 | c => 262143
noncomputable def dbl : Fm → Bool | a => true | b => false | c => false
noncomputable def wng : Fm → Bool | a => false | b => true | c => true
noncomputable def geo : Fm → AH | a => geoH0.take 42 | b => geoH1.take 42 | c => geoH2.take 42
end Fm
structure PZ where
  cells : List Int
  gone : Int
  B : List Int
  K : List Int
  D : List Int
  side : Int
  rights : Int
  ep : Int
  half : Int
  full : Int
noncomputable def posD (p : PZ) : List (Nat × AV) := [(8, .ref 13), (9, .ref 11), (10, .ref 47), (11, .ref 49), (12, .ref 50), (5, .int p.side), (13, .int p.rights), (14, .int p.ep), (15, .int p.half), (16, .int p.full), (17, .int 0), (18, .ref 51)]
noncomputable def low (f : Fm) (p : PZ) : AH := AO.list (p.cells.map .int) :: .map [(63, .ref 0), (85, .int p.gone)] :: (f.geo ++ [.dict (posD p), .inst 112 44, .list [.int 0], .list (p.B.map .int), .list [.int 0], .list (p.K.map .int), .list (p.D.map .int), .list []])
noncomputable def Hp (f : Fm) (p : PZ) (R : AH) : AH := low f p ++ R
section
variable {f : Fm} {p : PZ} {R X : AH}
theorem low_len : (low f p).length = 52 := by cases f <;> rfl
theorem Hp_app : Hp f p R ++ X = Hp f p (R ++ X) := List.append_assoc ..
theorem Hp_len : (Hp f p R).length = 52 + R.length := by unfold Hp; rw [List.length_append, low_len]
theorem Hp_new (j : Nat) : (Hp f p R)[52 + j]? = R[j]? := by unfold Hp; rw [List.getElem?_append_right (by rw [low_len]; omega), low_len]; congr 1; omega
theorem Hp_setnew (j : Nat) (o : AO) : (Hp f p R).set (52 + j) o = Hp f p (R.set j o) := by
  unfold Hp
  rw [List.set_append, if_neg (by rw [low_len]; omega), low_len]; congr 2; omega
noncomputable def geoD (f : Fm) : List (Nat × AV) := [(23, .int f.F), (25, .int f.Rk), (19, .int f.N), (16, .int f.full), (24, .bool f.dbl), (33, .bool f.wng), (34, .ref 14), (29, .ref 15), (35, .ref 16), (36, .ref 25), (37, .ref 18), (26, .ref 21), (32, .ref 22), (38, .ref 43)]
theorem Hp_pos : attrsOf (Hp f p R) (.ref 45) = some (44, posD p) := by cases f <;> rfl
theorem Hp_geo : attrsOf (Hp f p R) (.ref 13) = some (12, geoD f) := by cases f <;> rfl
theorem Hp_0 : (Hp f p R)[0]? = some (.list (p.cells.map .int)) := rfl
theorem Hp_1 : (Hp f p R)[1]? = some (.map [(63, .ref 0), (85, .int p.gone)]) := rfl
theorem Hp_B : (Hp f p R)[47]? = some (.list (p.B.map .int)) := by cases f <;> rfl
theorem Hp_K : (Hp f p R)[49]? = some (.list (p.K.map .int)) := by cases f <;> rfl
theorem Hp_D : (Hp f p R)[50]? = some (.list (p.D.map .int)) := by cases f <;> rfl
theorem Hp_set1 (g : Int) : (Hp f p R).set 1 (.map [(63, .ref 0), (85, .int g)]) = Hp f { p with gone := g } R := rfl
theorem Hp_setB (l : List Int) : (Hp f p R).set 47 (.list (l.map .int)) = Hp f { p with B := l } R := by cases f <;> rfl
theorem Hp_setK (l : List Int) : (Hp f p R).set 49 (.list (l.map .int)) = Hp f { p with K := l } R := by cases f <;> rfl
theorem Hp_setD (l : List Int) : (Hp f p R).set 50 (.list (l.map .int)) = Hp f { p with D := l } R := by cases f <;> rfl
theorem Hp_setP (q : PZ) (e : q.cells = p.cells ∧ q.gone = p.gone ∧ q.B = p.B ∧ q.K = p.K ∧ q.D = p.D) : (Hp f p R).set 44 (.dict (posD q)) = Hp f q R := by
  obtain ⟨a, b, c, d, e⟩ := e
  cases f <;> (unfold Hp low; rw [a, b, c, d, e]; rfl)
noncomputable def rmL (f : Fm) : List Int := match f with | .a => [15, 240, 3840, 61440, 983040] | .b => [127, 16256, 2080768] | .c => [63, 4032, 258048]
theorem Hp_rm : (Hp f p R)[15]? = some (.list ((rmL f).map .int)) := by cases f <;> rfl
noncomputable def casL (f : Fm) : List AV := match f with
  | .a => [.none, .none, .none, .none]
  | .b => [.tup [.int 3, .int 5, .int 6, .int 4], .tup [.int 3, .int 1, .int 0, .int 2], .tup [.int 17, .int 19, .int 20, .int 18], .tup [.int 17, .int 15, .int 14, .int 16]]
  | .c => [.none, .tup [.int 3, .int 1, .int 0, .int 2], .none, .tup [.int 15, .int 13, .int 12, .int 14]]
theorem Hp_ca : (Hp f p R)[22]? = some (.list (casL f)) := by cases f <;> rfl
theorem Hp_start (cells : List Int) (g : Int) (f : Fm) : AO.list (cells.map .int) :: .map [(63, .ref 0), (85, .int g)] :: (match f with | .a => geoH0 | .b => geoH1 | .c => geoH2) = Hp f ⟨cells, g, List.replicate f.N 0, List.replicate 7 0, [0, 0], 0, 0, -1, 0, 1⟩ [] := by cases f <;> rfl
end
end Mine
end
/-! part P9 -/
section
open PySem PySem.W PyProof.Rows
set_option maxRecDepth 100000
set_option linter.unusedVariables false
namespace Mine
theorem rngL_map (a : Int) (n : Nat) : rngL a 1 n = (List.range n).map fun i => AV.int (a + (i : Nat)) := by
  induction n generalizing a with
  | zero => rfl
  | succ n ih =>
    rw [rngL, ih, List.range_succ_eq_map, List.map_cons, List.map_map]
    congr 1
    · simp
    · apply List.map_congr_left
      intro i _
      simp only [Function.comp, Nat.succ_eq_add_one]
      congr 1
      omega
theorem items_rng (n : Nat) (h : n ≤ 1000) : itemsOf (.rng 0 n 1) = some (rngL 0 1 n) := by
  have e : Builtin.Range.rangeSize 0 n 1 = n := by
    unfold Builtin.Range.rangeSize
    rw [if_pos (by decide)]
    by_cases c : (0 : Int) < n
    · rw [if_pos c]; omega
    · rw [if_neg c]; omega
  have s : Builtin.Range.small 0 n 1 = true := by
    unfold Builtin.Range.small
    simp [Builtin.Range.rangeFitsLong, e]
    omega
  simp only [itemsOf, s, e, Int.toNat_natCast, if_true]
/-! comprehensions: the new list lies at 52 + R.length -/
theorem compL_ok {f : Fm} {p : PZ} {R : AH} {x : Nat} {t : TD} {g : ED} (c : AV → Bool) (y : AV → AV) (σ₀ : AS) (l : List AV)
    (h : ∀ v, v ∈ l → ∀ σ, (∀ i, i ≠ x → lk i σ = lk i σ₀) → lk x σ = some v → ∀ acc X, ∃ Y, t σ (Hp f p (R ++ .list acc :: X)) = some (c v, Hp f p (R ++ .list acc :: (X ++ Y))) ∧ (c v = true → g σ (Hp f p (R ++ .list acc :: (X ++ Y))) = some (y v, Hp f p (R ++ .list acc :: (X ++ Y))))) :
    ∀ σ, (∀ i, i ≠ x → lk i σ = lk i σ₀) → ∀ acc X, acc.length + l.length ≤ 1000 → ∃ Y, compL x t g (52 + R.length) l σ (Hp f p (R ++ .list acc :: X)) = some (Hp f p (R ++ .list (acc ++ (l.filter c).map y) :: (X ++ Y))) := by
  induction l with
  | nil => intro σ hσ acc X _; exact ⟨[], by simp [compL]⟩
  | cons v r ih =>
    intro σ hσ acc X hl
    have hσ' : ∀ i, i ≠ x → lk i (put x v σ) = lk i σ₀ := fun i hi => by rw [lk_put, if_neg hi]; exact hσ i hi
    obtain ⟨Y, ht, hg⟩ := h v (List.mem_cons_self ..) (put x v σ) hσ' (by rw [lk_put, if_pos rfl]) acc X
    have hl : acc.length + (r.length + 1) ≤ 1000 := hl
    have ih := ih (fun v hv => h v (List.mem_cons_of_mem _ hv))
    cases cv : c v with
    | false =>
      obtain ⟨Z, hz⟩ := ih (put x v σ) hσ' acc (X ++ Y) (by omega)
      refine ⟨Y ++ Z, ?_⟩
      rw [cv] at ht
      rw [compL, ht]
      dsimp only
      rw [hz, List.filter_cons_of_neg (by rw [cv]; decide), List.append_assoc]
    | true =>
      obtain ⟨Z, hz⟩ := ih (put x v σ) hσ' (acc ++ [y v]) (X ++ Y) (by rw [List.length_append]; simp; omega)
      refine ⟨Y ++ Z, ?_⟩
      have hg := hg cv
      rw [cv] at ht
      rw [compL, ht]
      dsimp only
      rw [hg]
      dsimp only
      have e1 : (Hp f p (R ++ .list acc :: (X ++ Y)))[52 + R.length]? = some (.list acc) := by rw [Hp_new]; simp
      have e2 : (Hp f p (R ++ .list acc :: (X ++ Y))).set (52 + R.length) (.list (acc ++ [y v])) = Hp f p (R ++ .list (acc ++ [y v]) :: (X ++ Y)) := by rw [Hp_setnew]; simp
      rw [e1]
      dsimp only
      rw [if_pos (by omega), e2, hz, List.filter_cons_of_pos cv, List.map_cons, List.append_assoc, List.append_assoc]
      rfl
theorem lk_capt {x i : Nat} {σ : AS} : ∀ {ids : List Nat}, i ∈ ids → lk i (capt ids σ) = lk i σ := by
  intro ids
  induction ids with
  | nil => intro h; cases h
  | cons j r ih =>
    intro h
    unfold capt
    by_cases e : i = j
    · subst e
      cases hh : lk i σ with
      | none =>
        dsimp only
        by_cases m : i ∈ r
        · rw [ih m, hh]
        · cases hc : lk i (capt r σ) with
          | none => rfl
          | some v => exact absurd (capt_get hc).1 m
      | some v => simp [lk]
    · have m : i ∈ r := by cases h with | head => exact absurd rfl e | tail _ m => exact m
      cases hh : lk j σ with
      | none => exact ih m
      | some v => simp only [lk, if_neg e]; exact ih m
/-- the whole comprehension; the answer is a new list -/
theorem comp_ok {f : Fm} {p : PZ} {R R' : AH} {ids : List Nat} {x : Nat} {it : ED} {t : TD} {g : ED} (c : AV → Bool) (y : AV → AV) {σ : AS} {v : AV} {l : List AV} (hit : it σ (Hp f p R) = some (v, Hp f p R')) (hl : itemsL (Hp f p R') v = some l) (hn : l.length ≤ 1000)
    (h : ∀ v, v ∈ l → ∀ σ', (∀ i, i ≠ x → i ∈ ids → lk i σ' = lk i σ) → lk x σ' = some v → ∀ acc X, ∃ Y, t σ' (Hp f p (R' ++ .list acc :: X)) = some (c v, Hp f p (R' ++ .list acc :: (X ++ Y))) ∧ (c v = true → g σ' (Hp f p (R' ++ .list acc :: (X ++ Y))) = some (y v, Hp f p (R' ++ .list acc :: (X ++ Y))))) :
    ∃ Y, dComp ids x it t g σ (Hp f p R) = some (.ref (52 + R'.length), Hp f p (R' ++ .list ((l.filter c).map y) :: Y)) := by
  obtain ⟨Y, e⟩ := compL_ok (f := f) (p := p) (R := R') (x := x) (t := t) (g := g) c y (capt ids σ) l (fun v hv σ' h1 h2 acc X => h v hv σ' (fun i hi m => by rw [h1 i hi, lk_capt (x := x) m]) h2 acc X) (capt ids σ) (fun _ _ => rfl) [] [] (by simpa using hn)
  refine ⟨Y, ?_⟩
  unfold dComp
  rw [hit]
  dsimp only
  rw [hl]
  dsimp only
  rw [Hp_len, Hp_app, e]
  simp
end Mine
end
/-! part P10 -/
section
open PySem PySem.W PyProof.Rows
set_option maxRecDepth 100000
set_option maxHeartbeats 1000000
set_option linter.unusedVariables false
set_option linter.unusedSimpArgs false
namespace Mine
noncomputable def gz (l : List Int) (i : Nat) : Int := l.getD i 0
theorem gz_lt {l : List Int} {i : Nat} (h : i < l.length) : l[i]? = some (gz l i) := by
  unfold gz; rw [List.getD_eq_getElem?_getD, List.getElem?_eq_getElem h]; rfl
theorem idx_nat {l : List Int} {i : Nat} (h : i < l.length) (hl : l.length ≤ 1000) : idx? (l.map .int) (i : Int) = some (.int (gz l i)) := by
  unfold idx?
  rw [if_pos (by unfold iOk; exact decide_eq_true (by omega)), if_pos (by omega), Int.toNat_natCast, List.getElem?_map, gz_lt h]; rfl
theorem idx_int {l : List Int} {i : Int} (h0 : 0 ≤ i) (h : i < l.length) (hl : l.length ≤ 1000) : idx? (l.map .int) i = some (.int (gz l i.toNat)) := by
  have := idx_nat (l := l) (i := i.toNat) (by omega) hl
  rwa [Int.toNat_of_nonneg h0] at this
theorem intsOf_map (l : List Int) : intsOf (l.map .int) = some l := by
  induction l with
  | nil => rfl
  | cons a r ih => simp [intsOf, ih]
section
variable {f : Fm} {p : PZ} {R X : AH}
theorem item_B {i : Int} (h0 : 0 ≤ i) (h : i < p.B.length) (hl : p.B.length ≤ 1000) : itemOf (Hp f p R) (.ref 47) (.int i) = some (.int (gz p.B i.toNat)) := by
  simp only [itemOf, Hp_B]; exact idx_int h0 h hl
theorem item_K {i : Int} (h0 : 0 ≤ i) (h : i < p.K.length) (hl : p.K.length ≤ 1000) : itemOf (Hp f p R) (.ref 49) (.int i) = some (.int (gz p.K i.toNat)) := by
  simp only [itemOf, Hp_K]; exact idx_int h0 h hl
theorem item_D {i : Int} (h0 : 0 ≤ i) (h : i < p.D.length) (hl : p.D.length ≤ 1000) : itemOf (Hp f p R) (.ref 50) (.int i) = some (.int (gz p.D i.toNat)) := by
  simp only [itemOf, Hp_D]; exact idx_int h0 h hl
end
theorem N_le (f : Fm) : f.N ≤ 21 := by cases f <;> decide
/-! _law_lies -/
noncomputable def bitL (l : List Int) (i : Nat) : List Int := l.map fun b => if bt b i then 1 else 0
noncomputable def dueK (m : Int) : List Int := (List.range 7).map fun (k : Nat) => if m ≠ 0 ∧ (k : Int) = m.fmod 8 then 1 else 0
noncomputable def dueS (m : Int) : List Int := [if m ≠ 0 ∧ m.fdiv 8 = 0 then 1 else 0, if m ≠ 0 ∧ m.fdiv 8 = 1 then 1 else 0]
noncomputable def lies (p : PZ) (i : Nat) : Bool := !decide (bitL p.K i = dueK (gz p.B i)) || !decide (bitL p.D i = dueS (gz p.B i))
noncomputable def yBit (i : Nat) : AV → AV | .int b => .int (if bt b i then 1 else 0) | v => v
noncomputable def yK (m : Int) : AV → AV | .int k => .int (if m ≠ 0 ∧ k = m.fmod 8 then 1 else 0) | v => v
noncomputable def yS (m : Int) : AV → AV | .int s => .int (if m ≠ 0 ∧ m.fdiv 8 = s then 1 else 0) | v => v
theorem filter_tt (l : List AV) : l.filter (fun _ => true) = l := by simp
theorem eqL_new {f : Fm} {p : PZ} {R : AH} {σ : AS} {a b : ED} {i j : Nat} {l l' : List Int} {H₁ : AH} {R₂ : AH} (ha : a σ (Hp f p R) = some (.ref (52 + i), H₁)) (hb : b σ H₁ = some (.ref (52 + j), Hp f p R₂)) (hi : R₂[i]? = some (.list (l.map .int))) (hj : R₂[j]? = some (.list (l'.map .int))) :
    dEqL a b σ (Hp f p R) = some (decide (l = l'), Hp f p R₂) := by
  simp only [dEqL, ha, hb, Hp_new, hi, hj, intsOf_map]
theorem bCons_next {a b : SD} {σ σ' : AS} {H H' : AH} {r : Option (Oc × AS × AH)} (h : a σ H = some (.next, σ', H')) (k : b σ' H' = r) : bCons a b σ H = r := by
  unfold bCons; rw [h]; exact k
theorem bCons_ret {a b : SD} {σ σ' : AS} {H H' : AH} {v : AV} (h : a σ H = some (.ret v, σ', H')) : bCons a b σ H = some (.ret v, σ', H') := by
  unfold bCons; rw [h]
theorem sAss_eq {e : ED} {i : Nat} {v : AV} {σ : AS} {H H' : AH} (h : e σ H = some (v, H')) : sAss e (gName i) σ H = some (.next, put i v σ, H') := by
  unfold sAss gName; rw [h]
theorem fDef_ret {ps : List Nat} {b : SD} {vs : List AV} {H H' : AH} {σ : AS} {v : AV} (hl : vs.length = ps.length) (h : b (ps.zip vs) H = some (.ret v, σ, H')) : fDef ps b vs H = some (.val v, H') := by
  unfold fDef outOf; rw [if_pos hl, h]
theorem sRet_eq {e : ED} {v : AV} {σ : AS} {H H' : AH} (h : e σ H = some (v, H')) : sRet e σ H = some (.ret v, σ, H') := by
  unfold sRet; rw [h]
theorem at_new (R : AH) (o : AO) (X : AH) : (R ++ o :: X)[R.length]? = some o := by simp
theorem at_pre {l : AH} {i : Nat} {o : AO} (h : l[i]? = some o) (Z : AH) : (l ++ Z)[i]? = some o := by
  rw [List.getElem?_append_left (List.getElem?_eq_some_iff.mp h).1]; exact h
theorem smD8 : smD 8 = true := by decide
theorem smD2 : smD 2 = true := by decide
theorem lies_ok {f : Fm} {p : PZ} (hB : p.B.length = f.N) (hK : p.K.length = 7) (hD : p.D.length = 2) {i : Nat} (hi : i < f.N) (R : AH) :
    ∃ Y, d__law_lies [.ref 45, .int i] (Hp f p R) = some (.val (.bool (lies p i)), Hp f p (R ++ Y)) := by
  have hN := N_le f
  have hm : itemOf (Hp f p R) (.ref 47) (.int i) = some (.int (gz p.B i)) := by
    have := item_B (f := f) (p := p) (R := R) (i := i) (by omega) (by omega) (by omega)
    rwa [Int.toNat_natCast] at this
  generalize hmm : gz p.B i = m at hm
  let σ₁ : AS := [(20, .ref 45), (67, .int i), (68, .int m)]
  obtain ⟨Y1, e1⟩ := comp_ok (f := f) (p := p) (R := R) (R' := R) (ids := [67]) (x := 10) (it := dAttr (dVar 20) 11) (t := dTT) (g := dBin oMod (dBin oShr (dVar 10) (dVar 67)) (dInt 2)) (fun _ => true) (yBit i) (σ := σ₁) (v := .ref 49) (l := p.K.map .int)
    (by simp [σ₁, dAttr, dVar, lk, Hp_pos, posD]) (by simp only [itemsL, Hp_K]) (by simp; omega)
    (by
      intro v hv σ' h1 h2 acc X
      obtain ⟨b, _, rfl⟩ := List.mem_map.mp hv
      have h3 := h1 67 (by decide) (by decide)
      refine ⟨[], by simp [dTT], fun _ => ?_⟩
      simp [dBin, dVar, h2, h3, σ₁, lk, oShr_nat, dInt, oMod, yBit, ← bt_shr, fdiv_p2])
  have r1 : ((p.K.map AV.int).filter (fun _ => true)).map (yBit i) = (bitL p.K i).map .int := by
    rw [filter_tt, bitL, List.map_map, List.map_map]; rfl
  rw [r1] at e1
  let R1 := R ++ .list ((bitL p.K i).map .int) :: Y1
  let σ₂ : AS := [(20, .ref 45), (67, .int i), (68, .int m), (11, .ref (52 + R.length))]
  obtain ⟨Y2, e2⟩ := comp_ok (f := f) (p := p) (R := R1) (R' := R1) (ids := [67]) (x := 10) (it := dAttr (dVar 20) 12) (t := dTT) (g := dBin oMod (dBin oShr (dVar 10) (dVar 67)) (dInt 2)) (fun _ => true) (yBit i) (σ := σ₂) (v := .ref 50) (l := p.D.map .int)
    (by simp [σ₂, dAttr, dVar, lk, Hp_pos, posD]) (by simp only [itemsL, Hp_D]) (by simp; omega)
    (by
      intro v hv σ' h1 h2 acc X
      obtain ⟨b, _, rfl⟩ := List.mem_map.mp hv
      have h3 := h1 67 (by decide) (by decide)
      refine ⟨[], by simp [dTT], fun _ => ?_⟩
      simp [dBin, dVar, h2, h3, σ₂, lk, oShr_nat, dInt, oMod, yBit, ← bt_shr, fdiv_p2])
  have r2 : ((p.D.map AV.int).filter (fun _ => true)).map (yBit i) = (bitL p.D i).map .int := by
    rw [filter_tt, bitL, List.map_map, List.map_map]; rfl
  rw [r2] at e2
  let R2 := R1 ++ .list ((bitL p.D i).map .int) :: Y2
  let σ₃ : AS := [(20, .ref 45), (67, .int i), (68, .int m), (11, .ref (52 + R.length)), (12, .ref (52 + R1.length))]
  obtain ⟨Y3, e3⟩ := comp_ok (f := f) (p := p) (R := R2) (R' := R2) (ids := [68]) (x := 6) (it := dRange (lCons (dInt 7) lNil)) (t := dTT) (g := dIf (dAnd (dCmp (kNe) (dVar 68) (dInt 0)) (dAnd (dCmp (kEq) (dVar 6) (dBin oMod (dVar 68) (dInt 8))) (dTT))) (dInt 1) (dInt 0)) (fun _ => true) (yK m) (σ := σ₃) (v := .rng 0 7 1) (l := rngL 0 1 7)
    (by simp [dRange, lCons, lNil, dInt]) (items_rng 7 (by decide)) (by decide)
    (by
      intro v hv σ' h1 h2 acc X
      rw [rngL_map] at hv
      obtain ⟨k, _, rfl⟩ := List.mem_map.mp hv
      have h3 := h1 68 (by decide) (by decide)
      refine ⟨[], by simp [dTT], fun _ => ?_⟩
      by_cases c1 : m = 0 <;> by_cases c2 : (k : Int) = m.fmod 8 <;> simp [dIf, dAnd, dCmp, kNe, kEq, dTT, dBin, dVar, h2, h3, σ₃, lk, dInt, oMod, yK, c1, c2])
  have r3 : ((rngL 0 1 7).filter (fun _ => true)).map (yK m) = (dueK m).map .int := by
    rw [filter_tt, dueK, rngL_map, List.map_map, List.map_map]
    apply List.map_congr_left
    intro k _
    simp [yK]
  rw [r3] at e3
  let R3 := R2 ++ .list ((dueK m).map .int) :: Y3
  let σ₄ : AS := [(20, .ref 45), (67, .int i), (68, .int m), (11, .ref (52 + R.length)), (12, .ref (52 + R1.length)), (69, .ref (52 + R2.length))]
  obtain ⟨Y4, e4⟩ := comp_ok (f := f) (p := p) (R := R3) (R' := R3) (ids := [68]) (x := 64) (it := dTup (lCons (dInt 0) (lCons (dInt 1) (lNil)))) (t := dTT) (g := dIf (dAnd (dCmp (kNe) (dVar 68) (dInt 0)) (dAnd (dCmp (kEq) (dBin oDiv (dVar 68) (dInt 8)) (dVar 64)) (dTT))) (dInt 1) (dInt 0)) (fun _ => true) (yS m) (σ := σ₄) (v := .tup [.int 0, .int 1]) (l := [.int 0, .int 1])
    (by simp [dTup, lCons, lNil, dInt]) rfl (by decide)
    (by
      intro v hv σ' h1 h2 acc X
      have : ∃ s : Int, v = .int s := by
        simp at hv; rcases hv with rfl | rfl <;> exact ⟨_, rfl⟩
      obtain ⟨s, rfl⟩ := this
      have h3 := h1 68 (by decide) (by decide)
      refine ⟨[], by simp [dTT], fun _ => ?_⟩
      by_cases c1 : m = 0 <;> by_cases c2 : m.fdiv 8 = s <;> simp [dIf, dAnd, dCmp, kNe, kEq, dTT, dBin, dVar, h2, h3, σ₄, lk, dInt, oDiv, smD8, yS, c1, c2])
  have r4 : ([AV.int 0, AV.int 1].filter (fun _ => true)).map (yS m) = (dueS m).map .int := rfl
  rw [r4] at e4
  have q1 : dEqL (dVar 11) (dVar 69) σ₄ (Hp f p R3) = some (decide (bitL p.K i = dueK m), Hp f p R3) :=
    eqL_new (i := R.length) (j := R2.length) (H₁ := Hp f p R3) rfl rfl (at_pre (at_pre (at_new ..) _) _) (at_new ..)
  have q2 : dEqL (dVar 12) (dComp [68] 64 (dTup (lCons (dInt 0) (lCons (dInt 1) (lNil)))) (dTT) (dIf (dAnd (dCmp (kNe) (dVar 68) (dInt 0)) (dAnd (dCmp (kEq) (dBin oDiv (dVar 68) (dInt 8)) (dVar 64)) (dTT))) (dInt 1) (dInt 0))) σ₄ (Hp f p R3) = some (decide (bitL p.D i = dueS m), Hp f p (R3 ++ .list ((dueS m).map .int) :: Y4)) :=
    eqL_new (i := R1.length) (j := R3.length) (H₁ := Hp f p R3) rfl e4 (at_pre (at_pre (at_new ..) _) _) (at_new ..)
  unfold lies
  rw [hmm]
  have e0 : dItem (dAttr (dVar 20) 10) (dVar 67) [(20, .ref 45), (67, .int i)] (Hp f p R) = some (.int m, Hp f p R) := by
    simp [dItem, dAttr, dVar, lk, Hp_pos, posD, hm]
  have fin : ∀ (b : Bool) (H' : AH), dOrV (dVal (dNot (dEqL (dVar 11) (dVar 69)))) (dVal (dNot (dEqL (dVar 12) (dComp [68] 64 (dTup (lCons (dInt 0) (lCons (dInt 1) (lNil)))) (dTT) (dIf (dAnd (dCmp (kNe) (dVar 68) (dInt 0)) (dAnd (dCmp (kEq) (dBin oDiv (dVar 68) (dInt 8)) (dVar 64)) (dTT))) (dInt 1) (dInt 0)))))) σ₄ (Hp f p R3) = some (.bool b, H') →
      d__law_lies [.ref 45, .int i] (Hp f p R) = some (.val (.bool b), H') := by
    intro b H' h
    exact fDef_ret rfl (bCons_next (sAss_eq e0) (bCons_next (sAss_eq e1) (bCons_next (sAss_eq e2) (bCons_next (sAss_eq e3) (bCons_ret (sRet_eq h))))))
  cases c : decide (bitL p.K i = dueK m) with
  | true =>
    rw [c] at q1
    refine ⟨.list ((bitL p.K i).map .int) :: Y1 ++ .list ((bitL p.D i).map .int) :: Y2 ++ .list ((dueK m).map .int) :: Y3 ++ .list ((dueS m).map .int) :: Y4, ?_⟩
    refine (fin (!decide (bitL p.D i = dueS m)) (Hp f p (R3 ++ .list ((dueS m).map .int) :: Y4)) ?_).trans ?_
    · simp only [dOrV, dVal, dNot, q1, q2, truth]
      rfl
    · simp [R3, R2, R1]
  | false =>
    rw [c] at q1
    refine ⟨.list ((bitL p.K i).map .int) :: Y1 ++ .list ((bitL p.D i).map .int) :: Y2 ++ .list ((dueK m).map .int) :: Y3, ?_⟩
    refine (fin true (Hp f p R3) ?_).trans ?_
    · simp only [dOrV, dVal, dNot, q1, q2, truth]
      rfl
    · simp [R3, R2, R1]
end Mine
end
/-! part P11 -/
section
open PySem PySem.W PyProof.Rows
set_option maxRecDepth 100000
set_option maxHeartbeats 1000000
set_option linter.unusedVariables false
set_option linter.unusedSimpArgs false
namespace Mine
/-! the wings -/
noncomputable def wingP (f : Fm) (i : Nat) : Option (Int × Int) := match f, i with
  | .a, _ => none
  | .b, 0 => some (3, 6) | .b, 1 => some (3, 0) | .b, 2 => some (17, 20) | .b, _ => some (17, 14)
  | .c, 0 => none | .c, 1 => some (3, 0) | .c, 2 => none | .c, _ => some (15, 12)
noncomputable def wingV (f : Fm) (i : Nat) : AV := match wingP f i with | some (h, c) => .tup [.int h, .int c] | none => .none
theorem wing_ok (f : Fm) (h : f.wng = true) (i : Nat) (hi : i < 4) (H : AH) : d__law_wing [.int f.F, .int f.N, .int i] H = some (.val (wingV f i), H) := by
  cases f
  · cases h
  · match i, hi with
    | 0, _ => rfl
    | 1, _ => rfl
    | 2, _ => rfl
    | 3, _ => rfl
  · match i, hi with
    | 0, _ => rfl
    | 1, _ => rfl
    | 2, _ => rfl
    | 3, _ => rfl
noncomputable def rA (f : Fm) (p : PZ) (i : Nat) : Option Int :=
  if bt p.rights i then (match wingP f i with
    | none => some (-1)
    | some (h, c) => if gz p.B h.toNat ≠ 6 + (i / 2 : Nat) * 8 then some h else if gz p.B c.toNat ≠ 4 + (i / 2 : Nat) * 8 then some c else none)
  else none
noncomputable def ofO : Option Int → AV | none => .none | some q => .int q
noncomputable def riBody : SD := (bCons (sIf (dCmp (kEq) (dBin oMod (dBin oDiv (dAttr (dVar 20) 13) (dBin oPow (dInt 2) (dVar 30))) (dInt 2)) (dInt 1)) (bCons (sAss (dIf (dTru (dVar 72)) (dX (xCall d__law_wing (lCons (dVar 23) (lCons (dVar 19) (lCons (dVar 30) (lNil)))))) (dNone)) (gName 31))
  (bCons (sIf (dIsN (dVar 31)) (bCons (sRet (dNeg (dInt 1)))
  (bNil)) (bNil))
  (bCons (sZip (dVar 31) (dTup (lCons (dInt 6) (lCons (dInt 4) (lNil)))) 67 68 (dCmp (kNe) (dItem (dAttr (dVar 20) 10) (dVar 67)) (dBin oAdd (dVar 68) (dBin oMul (dBin oDiv (dVar 30) (dInt 2)) (dInt 8)))))
  (bNil)))) (bNil))
  (bNil))
structure RiLk (f : Fm) (σ : AS) : Prop where
  l20 : lk 20 σ = some (.ref 45)
  l23 : lk 23 σ = some (.int f.F)
  l19 : lk 19 σ = some (.int f.N)
  l72 : lk 72 σ = some (.bool f.wng)
theorem RiLk.put {f : Fm} {σ : AS} (h : RiLk f σ) {i : Nat} {v : AV} (n : i ≠ 20 ∧ i ≠ 23 ∧ i ≠ 19 ∧ i ≠ 72) : RiLk f (put i v σ) := by
  obtain ⟨a, b, c, d⟩ := h
  obtain ⟨n1, n2, n3, n4⟩ := n
  constructor <;> rw [lk_put, if_neg (Ne.symm ‹_›)] <;> assumption
theorem wing_lt {f : Fm} {i : Nat} {h c : Int} (e : wingP f i = some (h, c)) : 0 ≤ h ∧ h < f.N ∧ 0 ≤ c ∧ c < f.N := by
  cases f
  · cases e
  · rcases i with _ | _ | _ | i <;> simp [wingP] at e <;> obtain ⟨rfl, rfl⟩ := e <;> decide
  · rcases i with _ | _ | _ | i <;> simp [wingP] at e <;> obtain ⟨rfl, rfl⟩ := e <;> decide
theorem wing_wng {f : Fm} (h : f.wng = false) (i : Nat) : wingP f i = none := by
  cases f
  · rfl
  · cases h
  · cases h
theorem ri_body {f : Fm} {p : PZ} (hB : p.B.length = f.N) {i : Nat} (hi : i < 4) {σ : AS} (L : RiLk f σ) (l30 : lk 30 σ = some (.int i)) (R : AH) :
    ∃ σ', RiLk f σ' ∧ riBody σ (Hp f p R) = match rA f p i with | some q => some (.ret (.int q), σ', Hp f p R) | none => some (.next, σ', Hp f p R) := by
  obtain ⟨l20, l23, l19, l72⟩ := id L
  have hN := N_le f
  have pw : oPow 2 (i : Int) = some (2 ^ i) := by
    unfold oPow
    rw [if_pos (by unfold smS; exact decide_eq_true (by omega)), Int.toNat_natCast]
  have dv : oDiv p.rights (2 ^ i) = some (p.rights.fdiv (2 ^ i)) := by
    unfold oDiv
    have : (2 : Int) ^ i ≤ 2 ^ 3 := p2_le (by omega)
    have := p2_pos i
    have e : (2 : Int) ^ 3 = 8 := rfl
    rw [if_pos (by unfold smD; exact decide_eq_true (by omega))]
  have md : ∀ x : Int, oMod x 2 = some (x.fmod 2) := fun x => rfl
  have tst : dCmp (kEq) (dBin oMod (dBin oDiv (dAttr (dVar 20) 13) (dBin oPow (dInt 2) (dVar 30))) (dInt 2)) (dInt 1) σ (Hp f p R) = some (bt p.rights i, Hp f p R) := by
    have bs := bt_shr p.rights i
    simp [dCmp, dBin, dAttr, dVar, l20, l30, dInt, Hp_pos, posD, lk, pw, dv, md, kEq, bs]
  unfold rA
  cases hb : bt p.rights i with
  | false =>
    refine ⟨σ, L, ?_⟩
    rw [hb] at tst
    simp only [riBody, bCons, sIf, tst, bNil]
    simp
  | true =>
    rw [hb] at tst
    simp only [if_true]
    have hass : dIf (dTru (dVar 72)) (dX (xCall d__law_wing (lCons (dVar 23) (lCons (dVar 19) (lCons (dVar 30) (lNil)))))) (dNone) σ (Hp f p R) = some (wingV f i, Hp f p R) := by
      cases hw : f.wng with
      | false => simp [dIf, dTru, dVar, l72, hw, truth, dNone, wingV, wing_wng hw]
      | true => simp [dIf, dTru, dVar, l72, hw, truth, dX, xCall, lCons, lNil, l23, l19, l30, wing_ok f hw i hi]
    cases hwp : wingP f i with
    | none =>
      have : wingV f i = .none := by unfold wingV; rw [hwp]
      rw [this] at hass
      refine ⟨put 31 .none σ, L.put (by decide), ?_⟩
      simp only [riBody, bCons, sIf, tst, sAss, hass, gName, dIsN, dVar, lk_put, if_true, isNone, sRet, dNeg, dInt]
    | some hc =>
      obtain ⟨h, c⟩ := hc
      obtain ⟨h0, h1, c0, c1⟩ := wing_lt hwp
      have : wingV f i = .tup [.int h, .int c] := by unfold wingV; rw [hwp]
      rw [this] at hass
      have ih := item_B (f := f) (p := p) (R := R) h0 (by omega) (by omega)
      have ic := item_B (f := f) (p := p) (R := R) c0 (by omega) (by omega)
      have d2 : oDiv (i : Int) 2 = some ((i / 2 : Nat) : Int) := by
        unfold oDiv
        rw [if_pos smD2, Int.fdiv_eq_ediv_of_nonneg _ (by decide)]; rfl
      have m8 : oMul ((i / 2 : Nat) : Int) 8 = some (((i / 2 : Nat) : Int) * 8) := by
        unfold oMul; rw [if_pos (by unfold sm; exact decide_eq_true (by omega))]
      let σ₁ := put 31 (.tup [.int h, .int c]) σ
      let σ₂ := put 68 (.int 6) (put 67 (.int h) σ₁)
      let σ₃ := put 68 (.int 4) (put 67 (.int c) σ₂)
      have L1 : RiLk f σ₁ := L.put (by decide)
      have L2 : RiLk f σ₂ := (L1.put (by decide)).put (by decide)
      have L3 : RiLk f σ₃ := (L2.put (by decide)).put (by decide)
      have t1 : dCmp (kNe) (dItem (dAttr (dVar 20) 10) (dVar 67)) (dBin oAdd (dVar 68) (dBin oMul (dBin oDiv (dVar 30) (dInt 2)) (dInt 8))) σ₂ (Hp f p R) = some (decide (gz p.B h.toNat ≠ 6 + (i / 2 : Nat) * 8), Hp f p R) := by
        have e30 : lk 30 σ₂ = some (.int i) := by simp [σ₂, σ₁, lk_put, l30]
        have e67 : lk 67 σ₂ = some (.int h) := by simp [σ₂, lk_put]
        have e68 : lk 68 σ₂ = some (.int 6) := by simp [σ₂, lk_put]
        simp only [dCmp, dItem, dAttr, dBin, dVar, dInt, L2.l20, e30, e67, e68, Hp_pos, posD, lk, ih, d2, m8, oAdd, kNe]
        simp [lk, ih, m8]
      have t2 : dCmp (kNe) (dItem (dAttr (dVar 20) 10) (dVar 67)) (dBin oAdd (dVar 68) (dBin oMul (dBin oDiv (dVar 30) (dInt 2)) (dInt 8))) σ₃ (Hp f p R) = some (decide (gz p.B c.toNat ≠ 4 + (i / 2 : Nat) * 8), Hp f p R) := by
        have e30 : lk 30 σ₃ = some (.int i) := by simp [σ₃, σ₂, σ₁, lk_put, l30]
        have e67 : lk 67 σ₃ = some (.int c) := by simp [σ₃, lk_put]
        have e68 : lk 68 σ₃ = some (.int 4) := by simp [σ₃, lk_put]
        simp only [dCmp, dItem, dAttr, dBin, dVar, dInt, L3.l20, e30, e67, e68, Hp_pos, posD, lk, ic, d2, m8, oAdd, kNe]
        simp [lk, ic, m8]
      have zt : dTup (lCons (dInt 6) (lCons (dInt 4) (lNil))) σ₁ (Hp f p R) = some (.tup [.int 6, .int 4], Hp f p R) := by simp [dTup, lCons, lNil, dInt]
      have step : ∀ r, sZip (dVar 31) (dTup (lCons (dInt 6) (lCons (dInt 4) (lNil)))) 67 68 (dCmp (kNe) (dItem (dAttr (dVar 20) 10) (dVar 67)) (dBin oAdd (dVar 68) (dBin oMul (dBin oDiv (dVar 30) (dInt 2)) (dInt 8)))) σ₁ (Hp f p R) = r → riBody σ (Hp f p R) = r := by
        intro r hr
        have hin : bCons (sAss (dIf (dTru (dVar 72)) (dX (xCall d__law_wing (lCons (dVar 23) (lCons (dVar 19) (lCons (dVar 30) (lNil)))))) (dNone)) (gName 31))
            (bCons (sIf (dIsN (dVar 31)) (bCons (sRet (dNeg (dInt 1))) (bNil)) (bNil))
            (bCons (sZip (dVar 31) (dTup (lCons (dInt 6) (lCons (dInt 4) (lNil)))) 67 68 (dCmp (kNe) (dItem (dAttr (dVar 20) 10) (dVar 67)) (dBin oAdd (dVar 68) (dBin oMul (dBin oDiv (dVar 30) (dInt 2)) (dInt 8))))) bNil)) σ (Hp f p R) = r := by
          refine bCons_next (sAss_eq hass) (bCons_next (σ' := σ₁) (H' := Hp f p R) (by simp [sIf, dIsN, dVar, lk_put, isNone, bNil, σ₁]) ?_)
          unfold bCons
          rw [hr]
          clear hr
          rcases r with _ | ⟨_ | _ | _ | _, _, _⟩ <;> rfl
        unfold riBody
        unfold bCons sIf
        rw [tst]
        dsimp only
        unfold bCons sIf at hin
        rw [hin]
        clear hin hr
        rcases r with _ | ⟨_ | _ | _ | _, _, _⟩ <;> rfl
      have zv : dVar 31 σ₁ (Hp f p R) = some (.tup [.int h, .int c], Hp f p R) := by simp [dVar, σ₁, lk_put]
      by_cases q1 : gz p.B h.toNat ≠ 6 + (i / 2 : Nat) * 8
      · refine ⟨σ₂, L2, ?_⟩
        rw [decide_eq_true q1] at t1
        rw [step (some (.ret (.int h), σ₂, Hp f p R)) (by simp only [sZip, zv, zt, dZip]; rw [show put 68 (AV.int 6) (put 67 (AV.int h) σ₁) = σ₂ from rfl, t1])]
        simp only [if_pos q1]
      · rw [decide_eq_false q1] at t1
        by_cases q2 : gz p.B c.toNat ≠ 4 + (i / 2 : Nat) * 8
        · refine ⟨σ₃, L3, ?_⟩
          rw [decide_eq_true q2] at t2
          rw [step (some (.ret (.int c), σ₃, Hp f p R)) (by simp only [sZip, zv, zt, dZip]; rw [show put 68 (AV.int 6) (put 67 (AV.int h) σ₁) = σ₂ from rfl, t1]; dsimp only; rw [show put 68 (AV.int 4) (put 67 (AV.int c) σ₂) = σ₃ from rfl, t2])]
          simp only [if_neg q1, if_pos q2]
        · refine ⟨σ₃, L3, ?_⟩
          rw [decide_eq_false q2] at t2
          rw [step (some (.next, σ₃, Hp f p R)) (by simp only [sZip, zv, zt, dZip]; rw [show put 68 (AV.int 6) (put 67 (AV.int h) σ₁) = σ₂ from rfl, t1]; dsimp only; rw [show put 68 (AV.int 4) (put 67 (AV.int c) σ₂) = σ₃ from rfl, t2])]
          simp only [if_neg q1, if_neg q2]
end Mine
end
/-! part P12 -/
section
open PySem PySem.W PyProof.Rows
set_option maxRecDepth 100000
set_option maxHeartbeats 1000000
set_option linter.unusedVariables false
set_option linter.unusedSimpArgs false
namespace Mine
noncomputable def firstR (f : Fm) (p : PZ) : Nat → Nat → Option Int
  | _, 0 => none
  | k, n + 1 => match rA f p k with | some q => some q | none => firstR f p (k + 1) n
theorem ri_loop {f : Fm} {p : PZ} (hB : p.B.length = f.N) (R : AH) : ∀ n k : Nat, k + n = 4 → ∀ σ, RiLk f σ →
    ∃ σ', dFor (gName 30) riBody (rngL k 1 n) σ (Hp f p R) = match firstR f p k n with | some q => some (.ret (.int q), σ', Hp f p R) | none => some (.next, σ', Hp f p R) := by
  intro n
  induction n with
  | zero => intro k _ σ _; exact ⟨σ, rfl⟩
  | succ n ih =>
    intro k hk σ L
    obtain ⟨σ', L', e⟩ := ri_body (p := p) hB (i := k) (by omega) (L.put (i := 30) (v := .int k) (by decide)) (by rw [lk_put, if_pos rfl]) R
    have e1 : (k : Int) + 1 = ((k + 1 : Nat) : Int) := by omega
    unfold rngL dFor gName firstR
    cases hr : rA f p k with
    | some q =>
      rw [hr] at e
      refine ⟨σ', ?_⟩
      dsimp only
      rw [e]
    | none =>
      rw [hr] at e
      obtain ⟨σ'', e'⟩ := ih (k + 1) (by omega) σ' L'
      refine ⟨σ'', ?_⟩
      dsimp only
      rw [e]
      dsimp only
      rw [e1]
      exact e'
noncomputable def rightsB (f : Fm) (p : PZ) : Option Int := if p.rights < 0 ∨ 15 < p.rights then some (-1) else firstR f p 0 4
theorem rights_ok {f : Fm} {p : PZ} (hB : p.B.length = f.N) (R : AH) : d__law_rights [.ref 45, .int f.F, .int f.N, .bool f.wng] (Hp f p R) = some (.val (ofO (rightsB f p)), Hp f p R) := by
  let σ : AS := [(20, .ref 45), (23, .int f.F), (19, .int f.N), (72, .bool f.wng)]
  have L : RiLk f σ := ⟨rfl, rfl, rfl, rfl⟩
  unfold rightsB
  by_cases c : p.rights < 0 ∨ 15 < p.rights
  · rw [if_pos c]
    refine fDef_ret (σ := σ) rfl (bCons_ret ?_)
    have : dOr (dCmp (kLt) (dAttr (dVar 20) 13) (dInt 0)) (dOr (dCmp (kGt) (dAttr (dVar 20) 13) (dInt 15)) (dFF)) σ (Hp f p R) = some (true, Hp f p R) := by
      rcases c with c | c
      · simp [dOr, dCmp, kLt, dAttr, dVar, σ, lk, Hp_pos, posD, dInt, c]
      · by_cases c' : p.rights < 0 <;> simp [dOr, dCmp, kLt, kGt, dAttr, dVar, σ, lk, Hp_pos, posD, dInt, c, c']
    show sIf _ _ _ σ (Hp f p R) = _
    unfold sIf
    rw [this]
    rfl
  · rw [if_neg c]
    have : dOr (dCmp (kLt) (dAttr (dVar 20) 13) (dInt 0)) (dOr (dCmp (kGt) (dAttr (dVar 20) 13) (dInt 15)) (dFF)) σ (Hp f p R) = some (false, Hp f p R) := by
      have c1 : ¬ p.rights < 0 := fun h => c (.inl h)
      have c2 : ¬ 15 < p.rights := fun h => c (.inr h)
      simp [dOr, dCmp, kLt, kGt, dAttr, dVar, σ, lk, Hp_pos, posD, dInt, c1, c2, dFF]
    obtain ⟨σ', e⟩ := ri_loop (f := f) (p := p) hB R 4 0 rfl σ L
    have lp : sFor (dRange (lCons (dInt 4) lNil)) (gName 30) riBody σ (Hp f p R) = dFor (gName 30) riBody (rngL 0 1 4) σ (Hp f p R) := by
      have := items_rng 4 (by decide)
      have hd : dRange (lCons (dInt 4) lNil) σ (Hp f p R) = some (.rng 0 4 1, Hp f p R) := by simp [dRange, lCons, lNil, dInt]
      unfold sFor
      rw [hd]
      dsimp only
      rw [show itemsOf (.rng 0 4 1) = some (rngL 0 1 4) from this]
    have fst : sIf (dOr (dCmp (kLt) (dAttr (dVar 20) 13) (dInt 0)) (dOr (dCmp (kGt) (dAttr (dVar 20) 13) (dInt 15)) (dFF))) (bCons (sRet (dNeg (dInt 1))) (bNil)) (bNil) σ (Hp f p R) = some (.next, σ, Hp f p R) := by
      unfold sIf; rw [this]; rfl
    cases hr : firstR f p 0 4 with
    | some q =>
      have e : dFor (gName 30) riBody (rngL 0 1 4) σ (Hp f p R) = some (.ret (.int q), σ', Hp f p R) := by
        have := e; rw [hr] at this; exact this
      exact fDef_ret (σ := σ') rfl (bCons_next fst (bCons_ret (lp.trans e)))
    | none =>
      have e : dFor (gName 30) riBody (rngL 0 1 4) σ (Hp f p R) = some (.next, σ', Hp f p R) := by
        have := e; rw [hr] at this; exact this
      exact fDef_ret (σ := σ') rfl (bCons_next fst (bCons_next (lp.trans e) (bCons_ret rfl)))
/-! _law_is_passed -/
noncomputable def aheadOf (p : PZ) : Int := if p.side = 0 then 4 else -4
noncomputable def besideL (p : PZ) : List Int := [p.ep - aheadOf p - 1, p.ep - aheadOf p + 1].filter fun x => decide (x.fdiv 4 = (p.ep - aheadOf p).fdiv 4)
noncomputable def passA (p : PZ) : Bool := decide ([gz p.B (p.ep + aheadOf p).toNat, gz p.B p.ep.toNat, gz p.B (p.ep - aheadOf p).toNat] = [0, 0, if p.side = 0 then 9 else 1]) && ((besideL p).map fun x => gz p.B x.toNat).any (· == if p.side = 0 then 1 else 9)
noncomputable def passed (f : Fm) (p : PZ) : Bool := f.dbl && decide (0 ≤ p.ep ∧ p.ep < f.N) && decide (p.ep.fdiv 4 = 2) && passA p
theorem passed_no {f : Fm} {p : PZ} (hs : p.side = 0 ∨ p.side = 1) (h : ¬ (f.dbl = true ∧ 0 ≤ p.ep ∧ p.ep < f.N ∧ p.ep.fdiv 4 = 2)) (R : AH) :
    d__law_is_passed [.ref 45, .int f.F, .int f.Rk, .bool f.dbl] (Hp f p R) = some (.val (.bool false), Hp f p R) := by
  have sF : sm f.F = true := by cases f <;> decide
  have smF : smD f.F = true := by cases f <;> decide
  have row : f.dbl = true → f.Rk - 3 = 2 ∧ f.F = 4 := by cases f <;> decide
  have nFR : f.F * f.Rk = f.N := by cases f <;> decide
  let ah : Int := if p.side = 0 then f.F else -f.F
  let rw2 : Int := if p.side = 0 then f.Rk - 3 else 2
  let σ₀ : AS := [(20, .ref 45), (23, .int f.F), (25, .int f.Rk), (24, .bool f.dbl)]
  let σ₁ : AS := [(20, .ref 45), (23, .int f.F), (25, .int f.Rk), (24, .bool f.dbl), (19, .int f.N), (22, .int ah)]
  let σ₂ : AS := [(20, .ref 45), (23, .int f.F), (25, .int f.Rk), (24, .bool f.dbl), (19, .int f.N), (22, .int ah), (40, .int rw2)]
  have cd : ∀ τ : AS, lk 20 τ = some (.ref 45) → dCmp (kEq) (dAttr (dVar 20) 5) (dInt 0) τ (Hp f p R) = some (decide (p.side = 0), Hp f p R) := fun τ l => by
    simp [dCmp, kEq, dAttr, dVar, l, Hp_pos, posD, lk, dInt]
  have s1 : sAss (dTup (lCons (dBin oMul (dVar 23) (dVar 25)) (lCons (dIf (dCmp (kEq) (dAttr (dVar 20) 5) (dInt 0)) (dVar 23) (dNeg (dVar 23))) (lNil)))) (gTup (gsCons (gName 19) (gsCons (gName 22) (gsNil)))) σ₀ (Hp f p R) = some (.next, σ₁, Hp f p R) := by
    have m : dBin oMul (dVar 23) (dVar 25) σ₀ (Hp f p R) = some (.int f.N, Hp f p R) := by
      simp only [dBin, show dVar 23 σ₀ (Hp f p R) = some (.int f.F, Hp f p R) from rfl, show dVar 25 σ₀ (Hp f p R) = some (.int f.Rk, Hp f p R) from rfl, oMul, sF, nFR]; rfl
    have d : dIf (dCmp (kEq) (dAttr (dVar 20) 5) (dInt 0)) (dVar 23) (dNeg (dVar 23)) σ₀ (Hp f p R) = some (.int ah, Hp f p R) := by
      unfold dIf
      rw [cd σ₀ rfl]
      by_cases c : p.side = 0
      · rw [decide_eq_true c, show ah = f.F from if_pos c]; rfl
      · rw [decide_eq_false c, show ah = -f.F from if_neg c]; rfl
    have t : dTup (lCons (dBin oMul (dVar 23) (dVar 25)) (lCons (dIf (dCmp (kEq) (dAttr (dVar 20) 5) (dInt 0)) (dVar 23) (dNeg (dVar 23))) (lNil))) σ₀ (Hp f p R) = some (.tup [.int f.N, .int ah], Hp f p R) := by
      unfold dTup lCons
      rw [m]
      dsimp only
      rw [d]
      rfl
    unfold sAss
    rw [t]
    rfl
  have s2 : sAss (dIf (dCmp (kEq) (dAttr (dVar 20) 5) (dInt 0)) (dBin oSub (dVar 25) (dInt 3)) (dInt 2)) (gName 40) σ₁ (Hp f p R) = some (.next, σ₂, Hp f p R) := by
    have d : dIf (dCmp (kEq) (dAttr (dVar 20) 5) (dInt 0)) (dBin oSub (dVar 25) (dInt 3)) (dInt 2) σ₁ (Hp f p R) = some (.int rw2, Hp f p R) := by
      unfold dIf
      rw [cd σ₁ rfl]
      by_cases c : p.side = 0
      · rw [decide_eq_true c, show rw2 = f.Rk - 3 from if_pos c]; rfl
      · rw [decide_eq_false c, show rw2 = 2 from if_neg c]; rfl
    unfold sAss
    rw [d]
    rfl
  refine fDef_ret (σ := σ₂) rfl (bCons_next s1 (bCons_next s2 (bCons_ret ?_)))
  suffices t : dOr (dNot (dTru (dVar 24))) (dOr (dNot (dChain (kLe) (kLt) (dInt 0) (dAttr (dVar 20) 14) (dVar 19))) (dOr (dCmp (kNe) (dBin oDiv (dAttr (dVar 20) 14) (dVar 23)) (dVar 40)) (dFF))) σ₂ (Hp f p R) = some (true, Hp f p R) by
    unfold sIf
    rw [t]
    rfl
  by_cases c0 : f.dbl = true
  · obtain ⟨r1, r2⟩ := row c0
    have r2' : rw2 = 2 := by show (if p.side = 0 then f.Rk - 3 else 2) = 2; rw [r1]; split <;> rfl
    by_cases c1 : 0 ≤ p.ep
    · by_cases c2 : p.ep < f.N
      · have c3 : ¬ p.ep.fdiv f.F = 2 := fun e => h ⟨c0, c1, c2, by rw [r2] at e; exact e⟩
        simp [dOr, dNot, dTru, truth, c0, dChain, kLe, kLt, c1, c2, kNe, oDiv, smF, c3, σ₂, lk, dVar, dAttr, dInt, dCmp, dBin, Hp_pos, posD, r2']
      · simp [dOr, dNot, dTru, truth, c0, dChain, kLe, kLt, c1, c2, kNe, σ₂, lk, dVar, dAttr, dInt, dCmp, dBin, Hp_pos, posD]
    · simp [dOr, dNot, dTru, truth, c0, dChain, kLe, kLt, c1, kNe, σ₂, lk, dVar, dAttr, dInt, dCmp, dBin, Hp_pos, posD]
  · simp [dOr, dNot, dTru, truth, c0, σ₂, lk, dVar]
end Mine
end
/-! part P13 -/
section
open PySem PySem.W PyProof.Rows
set_option maxRecDepth 100000
set_option maxHeartbeats 1000000
set_option linter.unusedVariables false
set_option linter.unusedSimpArgs false
namespace Mine
theorem dAndV_eq {a b : ED} {σ : AS} {H H₁ H₂ : AH} {x y : Bool} (ha : a σ H = some (.bool x, H₁)) (hb : b σ H₁ = some (.bool y, H₂)) : dAndV a b σ H = if x then some (.bool y, H₂) else some (.bool false, H₁) := by
  unfold dAndV
  rw [ha]
  cases x <;> simp [truth, hb]
noncomputable def yBd (p : PZ) : AV → AV | .int x => .int (gz p.B x.toNat) | v => v
theorem passed_yes {p : PZ} (hs : p.side = 0 ∨ p.side = 1) (hB : p.B.length = 20) (he : 8 ≤ p.ep ∧ p.ep < 12) (R : AH) :
    ∃ Y, d__law_is_passed [.ref 45, .int 4, .int 5, .bool true] (Hp .a p R) = some (.val (.bool (passA p)), Hp .a p (R ++ Y)) := by
  have hab : aheadOf p = 4 ∨ aheadOf p = -4 := by
    unfold aheadOf; split <;> simp
  obtain ⟨he0, he1⟩ := he
  let a := aheadOf p
  let en : Int := if p.side = 0 then 9 else 1
  let ow : Int := if p.side = 0 then 1 else 9
  have i1 := item_B (f := .a) (p := p) (R := R) (i := p.ep + aheadOf p) (by omega) (by omega) (by omega)
  have i2 := item_B (f := .a) (p := p) (R := R) (i := p.ep) (by omega) (by omega) (by omega)
  have i3 := item_B (f := .a) (p := p) (R := R) (i := p.ep - aheadOf p) (by omega) (by omega) (by omega)
  let σ₀ : AS := [(20, .ref 45), (23, .int 4), (25, .int 5), (24, .bool true)]
  let σ₁ : AS := [(20, .ref 45), (23, .int 4), (25, .int 5), (24, .bool true), (19, .int 20), (22, .int (aheadOf p))]
  have s1 : sAss (dTup (lCons (dBin oMul (dVar 23) (dVar 25)) (lCons (dIf (dCmp (kEq) (dAttr (dVar 20) 5) (dInt 0)) (dVar 23) (dNeg (dVar 23))) (lNil)))) (gTup (gsCons (gName 19) (gsCons (gName 22) (gsNil)))) σ₀ (Hp .a p R) = some (.next, σ₁, Hp .a p R) := by
    have : sm 4 = true := by decide
    by_cases c : p.side = 0 <;> simp [sAss, dTup, lCons, lNil, dBin, dVar, σ₀, σ₁, lk, oMul, this, dIf, dCmp, kEq, dAttr, Hp_pos, posD, dInt, c, gTup, gsCons, gsNil, gName, put, aheadOf, dNeg]
  let σ₂ : AS := σ₁ ++ [(40, .int 2)]
  have s2 : sAss (dIf (dCmp (kEq) (dAttr (dVar 20) 5) (dInt 0)) (dBin oSub (dVar 25) (dInt 3)) (dInt 2)) (gName 40) σ₁ (Hp .a p R) = some (.next, σ₂, Hp .a p R) := by
    by_cases c : p.side = 0 <;> simp [sAss, dBin, dVar, σ₂, σ₁, lk, oSub, dIf, dCmp, kEq, dAttr, Hp_pos, posD, dInt, c, gName, put]
  have q4 : p.ep.fdiv 4 = 2 := by rw [Int.fdiv_eq_ediv_of_nonneg _ (by decide)]; omega
  have s3 : sIf (dOr (dNot (dTru (dVar 24))) (dOr (dNot (dChain (kLe) (kLt) (dInt 0) (dAttr (dVar 20) 14) (dVar 19))) (dOr (dCmp (kNe) (dBin oDiv (dAttr (dVar 20) 14) (dVar 23)) (dVar 40)) (dFF)))) (bCons (sRet (dBool false)) (bNil)) (bNil) σ₂ (Hp .a p R) = some (.next, σ₂, Hp .a p R) := by
    have m4 : smD 4 = true := by decide
    have c1 : 0 ≤ p.ep := by omega
    have c2 : p.ep < 20 := by omega
    simp [sIf, dOr, dNot, dTru, dVar, lk, σ₂, σ₁, truth, dChain, kLe, kLt, dInt, dAttr, Hp_pos, posD, c1, c2, dCmp, kNe, dBin, oDiv, m4, q4, dFF, bNil]
  let σ₃ : AS := σ₂ ++ [(75, .int en), (76, .int ow)]
  have s4 : sAss (dIf (dCmp (kEq) (dAttr (dVar 20) 5) (dInt 0)) (dTup (lCons (dInt 9) (lCons (dInt 1) (lNil)))) (dTup (lCons (dInt 1) (lCons (dInt 9) (lNil))))) (gTup (gsCons (gName 75) (gsCons (gName 76) (gsNil)))) σ₂ (Hp .a p R) = some (.next, σ₃, Hp .a p R) := by
    by_cases c : p.side = 0 <;> simp [sAss, dTup, lCons, lNil, dVar, σ₃, σ₂, σ₁, lk, dIf, dCmp, kEq, dAttr, Hp_pos, posD, dInt, c, gTup, gsCons, gsNil, gName, put, en, ow]
  let l3 : List Int := [gz p.B (p.ep + aheadOf p).toNat, gz p.B p.ep.toNat, gz p.B (p.ep - aheadOf p).toNat]
  let R1 := R ++ [AO.list (l3.map .int)]
  let σ₄ : AS := σ₃ ++ [(73, .ref (52 + R.length))]
  have s5 : sAss (dList (lCons (dItem (dAttr (dVar 20) 10) (dBin oAdd (dAttr (dVar 20) 14) (dVar 22))) (lCons (dItem (dAttr (dVar 20) 10) (dAttr (dVar 20) 14)) (lCons (dItem (dAttr (dVar 20) 10) (dBin oSub (dAttr (dVar 20) 14) (dVar 22))) (lNil))))) (gName 73) σ₃ (Hp .a p R) = some (.next, σ₄, Hp .a p R1) := by
    simp [sAss, dList, lCons, lNil, dItem, dAttr, dVar, σ₄, σ₃, σ₂, σ₁, lk, Hp_pos, posD, dBin, oAdd, oSub, i1, i2, i3, gName, put, Hp_len, Hp_app, R1, l3]
  let s := p.ep - aheadOf p
  obtain ⟨Y1, e6⟩ := comp_ok (f := .a) (p := p) (R := R1) (R' := R1) (ids := [20, 23, 22]) (x := 67) (it := dTup (lCons (dBin oSub (dBin oSub (dAttr (dVar 20) 14) (dVar 22)) (dInt 1)) (lCons (dBin oAdd (dBin oSub (dAttr (dVar 20) 14) (dVar 22)) (dInt 1)) (lNil)))) (t := dCmp (kEq) (dBin oDiv (dVar 67) (dVar 23)) (dBin oDiv (dBin oSub (dAttr (dVar 20) 14) (dVar 22)) (dVar 23))) (g := dVar 67) (fun v => match v with | .int x => decide (x.fdiv 4 = (p.ep - aheadOf p).fdiv 4) | _ => false) id (σ := σ₄) (v := .tup [.int (s - 1), .int (s + 1)]) (l := [.int (s - 1), .int (s + 1)])
    (by simp [dTup, lCons, lNil, dBin, dAttr, dVar, σ₄, σ₃, σ₂, σ₁, lk, Hp_pos, posD, oSub, oAdd, dInt, s]) rfl (by simp)
    (by
      intro v hv σ' h1 h2 acc X
      have : ∃ x : Int, v = .int x := by
        simp at hv; rcases hv with rfl | rfl <;> exact ⟨_, rfl⟩
      obtain ⟨x, rfl⟩ := this
      have h20 := h1 20 (by decide) (by decide)
      have h23 := h1 23 (by decide) (by decide)
      have h22 := h1 22 (by decide) (by decide)
      have m4 : smD 4 = true := by decide
      refine ⟨[], ?_, fun _ => ?_⟩
      · simp [dCmp, kEq, dBin, dVar, h2, h20, h23, h22, σ₄, σ₃, σ₂, σ₁, lk, oDiv, m4, dAttr, Hp_pos, posD, oSub]
      · simp [dVar, h2])
  have r6 : ((([AV.int (s - 1), AV.int (s + 1)]).filter (fun v => match v with | .int x => decide (x.fdiv 4 = (p.ep - aheadOf p).fdiv 4) | _ => false)).map id) = (besideL p).map .int := by
    unfold besideL
    rw [List.map_id]
    simp only [List.filter]
    by_cases c1 : (s - 1).fdiv 4 = (p.ep - aheadOf p).fdiv 4 <;> by_cases c2 : (s + 1).fdiv 4 = (p.ep - aheadOf p).fdiv 4 <;> simp only [s] at c1 c2 <;> simp [s, c1, c2]
  rw [r6] at e6
  let R2 := R1 ++ .list ((besideL p).map .int) :: Y1
  let σ₅ : AS := σ₄ ++ [(74, .ref (52 + R1.length))]
  have e7 : dList (lCons (dInt 0) (lCons (dInt 0) (lCons (dVar 75) (lNil)))) σ₅ (Hp .a p R2) = some (.ref (52 + R2.length), Hp .a p (R2 ++ [.list (([0, 0, en] : List Int).map .int)])) := by
    simp [dList, lCons, lNil, dInt, dVar, σ₅, σ₄, σ₃, σ₂, σ₁, lk, Hp_len, Hp_app]
  let R3 := R2 ++ [AO.list (([0, 0, en] : List Int).map .int)]
  have q7 : dEqL (dVar 73) (dList (lCons (dInt 0) (lCons (dInt 0) (lCons (dVar 75) (lNil))))) σ₅ (Hp .a p R2) = some (decide (l3 = [0, 0, en]), Hp .a p R3) :=
    eqL_new (i := R.length) (j := R2.length) (H₁ := Hp .a p R2) rfl e7 (at_pre (at_pre (at_new ..) _) _) (at_new ..)
  have mem : ∀ x ∈ besideL p, 0 ≤ x ∧ x < 20 := by
    intro x hx
    unfold besideL at hx
    have hx := (List.mem_filter.mp hx).1
    simp at hx
    omega
  obtain ⟨Y2, e8⟩ := comp_ok (f := .a) (p := p) (R := R3) (R' := R3) (ids := [20]) (x := 67) (it := dVar 74) (t := dTT) (g := dItem (dAttr (dVar 20) 10) (dVar 67)) (fun _ => true) (yBd p) (σ := σ₅) (v := .ref (52 + R1.length)) (l := (besideL p).map .int)
    rfl (by simp only [itemsL, Hp_new]; rw [show R3[R1.length]? = some (.list ((besideL p).map .int)) from at_pre (at_new ..) _]) (by
      have : (besideL p).length ≤ 2 := List.length_filter_le _ _
      rw [List.length_map]; omega)
    (by
      intro v hv σ' h1 h2 acc X
      obtain ⟨x, hx, rfl⟩ := List.mem_map.mp hv
      obtain ⟨m0, m1⟩ := mem x hx
      have h20 := h1 20 (by decide) (by decide)
      refine ⟨[], by simp [dTT], fun _ => ?_⟩
      have ix := item_B (f := .a) (p := p) (R := R3 ++ .list acc :: (X ++ [])) m0 (by omega) (by omega)
      simp only [dItem, dAttr, dVar, h2, h20, Hp_pos]
      simp only [List.append_nil] at ix ⊢
      simp [σ₅, σ₄, σ₃, σ₂, σ₁, lk, posD, ix, Hp_pos, yBd])
  have r8 : (((besideL p).map AV.int).filter (fun _ => true)).map (yBd p) = ((besideL p).map fun x => gz p.B x.toNat).map .int := by
    rw [filter_tt, List.map_map, List.map_map]; rfl
  rw [r8] at e8
  let bl := (besideL p).map fun x => gz p.B x.toNat
  let R4 := R3 ++ .list (bl.map .int) :: Y2
  have q8 : dIn (dVar 76) (dComp [20] 67 (dVar 74) (dTT) (dItem (dAttr (dVar 20) 10) (dVar 67))) σ₅ (Hp .a p R3) = some (bl.any (· == ow), Hp .a p R4) := by
    have v76 : dVar 76 σ₅ (Hp .a p R3) = some (.int ow, Hp .a p R3) := rfl
    simp only [dIn, v76, e8, seqOf, Hp_new]
    rw [show (R3 ++ .list (bl.map .int) :: Y2)[R3.length]? = some (.list (bl.map .int)) from at_new ..]
    simp only [intsOf_map]
    rfl
  have fin : ∀ (b : Bool) (H' : AH), dAndV (dVal (dEqL (dVar 73) (dList (lCons (dInt 0) (lCons (dInt 0) (lCons (dVar 75) (lNil))))))) (dVal (dIn (dVar 76) (dComp [20] 67 (dVar 74) (dTT) (dItem (dAttr (dVar 20) 10) (dVar 67))))) σ₅ (Hp .a p R2) = some (.bool b, H') →
      d__law_is_passed [.ref 45, .int 4, .int 5, .bool true] (Hp .a p R) = some (.val (.bool b), H') := by
    intro b H' h
    exact fDef_ret rfl (bCons_next s1 (bCons_next s2 (bCons_next s3 (bCons_next s4 (bCons_next s5 (bCons_next (sAss_eq e6) (bCons_ret (sRet_eq h))))))))
  have va : dVal (dEqL (dVar 73) (dList (lCons (dInt 0) (lCons (dInt 0) (lCons (dVar 75) (lNil)))))) σ₅ (Hp .a p R2) = some (.bool (decide (l3 = [0, 0, en])), Hp .a p R3) := by
    unfold dVal; rw [q7]
  have vb : dVal (dIn (dVar 76) (dComp [20] 67 (dVar 74) (dTT) (dItem (dAttr (dVar 20) 10) (dVar 67)))) σ₅ (Hp .a p R3) = some (.bool (bl.any (· == ow)), Hp .a p R4) := by
    unfold dVal; rw [q8]
  have vv := dAndV_eq va vb
  have pa : passA p = (decide (l3 = [0, 0, en]) && bl.any (· == ow)) := rfl
  rw [pa]
  cases c : decide (l3 = [0, 0, en]) with
  | true =>
    rw [c] at vv
    refine ⟨[AO.list (l3.map .int)] ++ .list ((besideL p).map .int) :: Y1 ++ [AO.list (([0, 0, en] : List Int).map .int)] ++ .list (bl.map .int) :: Y2, ?_⟩
    refine (fin (bl.any (· == ow)) (Hp .a p R4) vv).trans ?_
    simp [R4, R3, R2, R1]
  | false =>
    rw [c] at vv
    refine ⟨[AO.list (l3.map .int)] ++ .list ((besideL p).map .int) :: Y1 ++ [AO.list (([0, 0, en] : List Int).map .int)], ?_⟩
    refine (fin false (Hp .a p R3) vv).trans ?_
    simp [R3, R2, R1]
theorem passed_ok {f : Fm} {p : PZ} (hs : p.side = 0 ∨ p.side = 1) (hB : p.B.length = f.N) (R : AH) :
    ∃ Y, d__law_is_passed [.ref 45, .int f.F, .int f.Rk, .bool f.dbl] (Hp f p R) = some (.val (.bool (passed f p)), Hp f p (R ++ Y)) := by
  by_cases c : f.dbl = true ∧ 0 ≤ p.ep ∧ p.ep < f.N ∧ p.ep.fdiv 4 = 2
  · obtain ⟨c0, c1, c2, c3⟩ := c
    have fa : f = .a := by cases f <;> first | rfl | cases c0
    subst fa
    have pe : passed .a p = passA p := by
      unfold passed
      rw [decide_eq_true (⟨c1, c2⟩ : 0 ≤ p.ep ∧ p.ep < Fm.a.N), decide_eq_true c3]; rfl
    rw [pe]
    refine passed_yes hs hB ?_ R
    rw [Int.fdiv_eq_ediv_of_nonneg _ (by decide)] at c3
    omega
  · have pe : passed f p = false := by
      unfold passed
      by_cases c0 : f.dbl = true
      · by_cases c1 : 0 ≤ p.ep ∧ p.ep < f.N
        · have : ¬ p.ep.fdiv 4 = 2 := fun e => c ⟨c0, c1.1, c1.2, e⟩
          simp [this]
        · rw [decide_eq_false c1]; simp
      · simp [c0]
    rw [pe]
    exact ⟨[], by rw [List.append_nil]; exact passed_no hs c R⟩
end Mine
end
/-! part P14 -/
section
open PySem PySem.W PyProof.Rows
set_option maxRecDepth 100000
set_option maxHeartbeats 1000000
set_option linter.unusedVariables false
set_option linter.unusedSimpArgs false
namespace Mine
/-- b returns v, having only appended -/
noncomputable def Ret (b : SD) (σ : AS) (f : Fm) (p : PZ) (R : AH) (v : AV) : Prop := ∃ σ' Y, b σ (Hp f p R) = some (.ret v, σ', Hp f p (R ++ Y))
theorem Ret_next {a b : SD} {σ σ₁ : AS} {f : Fm} {p : PZ} {R X : AH} {v : AV} (h : a σ (Hp f p R) = some (.next, σ₁, Hp f p (R ++ X))) (k : Ret b σ₁ f p (R ++ X) v) : Ret (bCons a b) σ f p R v := by
  obtain ⟨σ', Y, e⟩ := k
  exact ⟨σ', X ++ Y, by rw [bCons_next h e, List.append_assoc]⟩
theorem Ret_next0 {a b : SD} {σ σ₁ : AS} {f : Fm} {p : PZ} {R : AH} {v : AV} (h : a σ (Hp f p R) = some (.next, σ₁, Hp f p R)) (k : Ret b σ₁ f p R v) : Ret (bCons a b) σ f p R v := by
  obtain ⟨σ', Y, e⟩ := k
  exact ⟨σ', Y, bCons_next h e⟩
theorem Ret_ret {a b : SD} {σ σ' : AS} {f : Fm} {p : PZ} {R X : AH} {v : AV} (h : a σ (Hp f p R) = some (.ret v, σ', Hp f p (R ++ X))) : Ret (bCons a b) σ f p R v := ⟨σ', X, bCons_ret h⟩
theorem sIf_t {t : TD} {a b : SD} {σ : AS} {H H' : AH} {r : Option (Oc × AS × AH)} (h : t σ H = some (true, H')) (k : a σ H' = r) : sIf t a b σ H = r := by
  unfold sIf; rw [h]; exact k
theorem sIf_f {t : TD} {a b : SD} {σ : AS} {H H' : AH} {r : Option (Oc × AS × AH)} (h : t σ H = some (false, H')) (k : b σ H' = r) : sIf t a b σ H = r := by
  unfold sIf; rw [h]; exact k
structure BlLk (f : Fm) (σ : AS) : Prop where
  l20 : lk 20 σ = some (.ref 45)
  l23 : lk 23 σ = some (.int f.F)
  l25 : lk 25 σ = some (.int f.Rk)
  l24 : lk 24 σ = some (.bool f.dbl)
  l72 : lk 72 σ = some (.bool f.wng)
  l19 : lk 19 σ = some (.int f.N)
  l65 : lk 65 σ = some (.ref 47)
theorem BlLk.put {f : Fm} {σ : AS} (h : BlLk f σ) {i : Nat} {v : AV} (n : i ≠ 20 ∧ i ≠ 23 ∧ i ≠ 25 ∧ i ≠ 24 ∧ i ≠ 72 ∧ i ≠ 19 ∧ i ≠ 65) : BlLk f (put i v σ) := by
  obtain ⟨a, b, c, d, e, g, k⟩ := h
  obtain ⟨n1, n2, n3, n4, n5, n6, n7⟩ := n
  constructor <;> rw [lk_put, if_neg (Ne.symm ‹_›)] <;> assumption
/-! the last part: rights, ep -/
noncomputable def blT12 : SD := (bCons (sAss (dX (xCall d__law_rights (lCons (dVar 20) (lCons (dVar 23) (lCons (dVar 19) (lCons (dVar 72) (lNil))))))) (gName 81))
  (bCons (sIf (dAnd (dIsN (dVar 81)) (dAnd (dCmp (kNe) (dAttr (dVar 20) 14) (dNeg (dInt 1))) (dAnd (dNot (dTru (dX (xCall d__law_is_passed (lCons (dVar 20) (lCons (dVar 23) (lCons (dVar 25) (lCons (dVar 24) (lNil))))))))) (dTT)))) (bCons (sRet (dAttr (dVar 20) 14))
  (bNil)) (bNil))
  (bCons (sRet (dVar 81))
  (bNil))))
noncomputable def blame12 (f : Fm) (p : PZ) : Option Int := match rightsB f p with
  | some q => some q
  | none => if p.ep ≠ -1 ∧ passed f p = false then some p.ep else none
theorem blT12_ok {f : Fm} {p : PZ} (hs : p.side = 0 ∨ p.side = 1) (hB : p.B.length = f.N) {σ : AS} (L : BlLk f σ) (R : AH) : Ret blT12 σ f p R (ofO (blame12 f p)) := by
  obtain ⟨l20, l23, l25, l24, l72, l19, l65⟩ := id L
  have e1 : dX (xCall d__law_rights (lCons (dVar 20) (lCons (dVar 23) (lCons (dVar 19) (lCons (dVar 72) (lNil)))))) σ (Hp f p R) = some (ofO (rightsB f p), Hp f p R) := by
    simp [dX, xCall, lCons, lNil, dVar, l20, l23, l19, l72, rights_ok hB]
  refine Ret_next0 (sAss_eq e1) ?_
  have L' : BlLk f (put 81 (ofO (rightsB f p)) σ) := L.put (by decide)
  have l81 : lk 81 (put 81 (ofO (rightsB f p)) σ) = some (ofO (rightsB f p)) := by rw [lk_put, if_pos rfl]
  generalize put 81 (ofO (rightsB f p)) σ = σ₁ at L' l81
  obtain ⟨l20, l23, l25, l24, l72, l19, l65⟩ := id L'
  unfold blame12
  cases hr : rightsB f p with
  | some q =>
    rw [hr] at l81
    have : dAnd (dIsN (dVar 81)) (dAnd (dCmp (kNe) (dAttr (dVar 20) 14) (dNeg (dInt 1))) (dAnd (dNot (dTru (dX (xCall d__law_is_passed (lCons (dVar 20) (lCons (dVar 23) (lCons (dVar 25) (lCons (dVar 24) (lNil))))))))) (dTT))) σ₁ (Hp f p R) = some (false, Hp f p R) := by
      simp [dAnd, dIsN, dVar, l81, ofO, isNone]
    refine Ret_next0 (sIf_f this rfl) (Ret_ret (X := []) (σ' := σ₁) (sRet_eq ?_))
    simp [dVar, l81]
  | none =>
    rw [hr] at l81
    by_cases ce : p.ep = -1
    · have : dAnd (dIsN (dVar 81)) (dAnd (dCmp (kNe) (dAttr (dVar 20) 14) (dNeg (dInt 1))) (dAnd (dNot (dTru (dX (xCall d__law_is_passed (lCons (dVar 20) (lCons (dVar 23) (lCons (dVar 25) (lCons (dVar 24) (lNil))))))))) (dTT))) σ₁ (Hp f p R) = some (false, Hp f p R) := by
        simp [dAnd, dIsN, dVar, l81, ofO, isNone, dCmp, kNe, dAttr, l20, Hp_pos, posD, lk, dNeg, dInt, ce]
      refine Ret_next0 (sIf_f this rfl) (Ret_ret (X := []) (σ' := σ₁) (sRet_eq ?_))
      simp [dVar, l81, ce]
    · obtain ⟨Y, ep⟩ := passed_ok (f := f) (p := p) hs hB R
      have : dAnd (dIsN (dVar 81)) (dAnd (dCmp (kNe) (dAttr (dVar 20) 14) (dNeg (dInt 1))) (dAnd (dNot (dTru (dX (xCall d__law_is_passed (lCons (dVar 20) (lCons (dVar 23) (lCons (dVar 25) (lCons (dVar 24) (lNil))))))))) (dTT))) σ₁ (Hp f p R) = some (!passed f p, Hp f p (R ++ Y)) := by
        cases hp : passed f p <;> rw [hp] at ep <;> simp [dAnd, dIsN, dVar, l81, ofO, isNone, dCmp, kNe, dAttr, l20, Hp_pos, posD, lk, dNeg, dInt, ce, dNot, dTru, dX, xCall, lCons, lNil, l23, l25, l24, ep, truth, dTT]
      cases hp : passed f p with
      | true =>
        rw [hp] at this
        refine Ret_next (σ₁ := σ₁) (sIf_f this rfl) (Ret_ret (X := []) (σ' := σ₁) (sRet_eq ?_))
        simp [dVar, l81]
      | false =>
        rw [hp] at this
        refine Ret_ret (X := Y) (σ' := σ₁) (sIf_t this (bCons_ret (sRet_eq ?_)))
        simp [dAttr, dVar, l20, Hp_pos, posD, lk, ofO, ce]
end Mine
end
/-! part P15 -/
section
open PySem PySem.W PyProof.Rows
set_option maxRecDepth 100000
set_option maxHeartbeats 1000000
set_option linter.unusedVariables false
set_option linter.unusedSimpArgs false
namespace Mine
noncomputable def natL (l : List Nat) : List Int := l.map fun (i : Nat) => (i : Int)
noncomputable def cN (c : Nat → Bool) : AV → Bool | .int x => c x.toNat | _ => false
theorem comp_rng {f : Fm} {p : PZ} {R : AH} {ids : List Nat} {t : TD} (c : Nat → Bool) {σ : AS} (h19 : lk 19 σ = some (.int f.N))
    (h : ∀ i, i < f.N → ∀ σ', (∀ j, j ≠ 67 → j ∈ ids → lk j σ' = lk j σ) → lk 67 σ' = some (.int i) → ∀ R', ∃ Y, t σ' (Hp f p R') = some (c i, Hp f p (R' ++ Y))) :
    ∃ Y, dComp ids 67 (dRange (lCons (dVar 19) lNil)) t (dVar 67) σ (Hp f p R) = some (.ref (52 + R.length), Hp f p (R ++ .list ((natL ((List.range f.N).filter c)).map .int) :: Y)) := by
  have hN := N_le f
  obtain ⟨Y, e⟩ := comp_ok (f := f) (p := p) (R := R) (R' := R) (ids := ids) (x := 67) (it := dRange (lCons (dVar 19) lNil)) (t := t) (g := dVar 67) (cN c) id (σ := σ) (v := .rng 0 f.N 1) (l := rngL 0 1 f.N)
    (by simp [dRange, lCons, lNil, dVar, h19]) (items_rng f.N (by omega)) (by rw [rngL_map]; simp; omega)
    (by
      intro v hv σ' h1 h2 acc X
      rw [rngL_map] at hv
      obtain ⟨k, hk, rfl⟩ := List.mem_map.mp hv
      rw [Int.zero_add] at h2 ⊢
      obtain ⟨Y, e⟩ := h k (List.mem_range.mp hk) σ' h1 h2 (R ++ .list acc :: X)
      refine ⟨Y, ?_, fun _ => by simp [dVar, h2]⟩
      rw [e]
      simp [cN])
  refine ⟨Y, ?_⟩
  have g1 : (cN c ∘ fun (i : Nat) => AV.int (0 + (i : Int))) = c := by funext i; simp [cN]
  have g2 : (fun (i : Nat) => AV.int (0 + (i : Int))) = AV.int ∘ fun (i : Nat) => (i : Int) := by funext i; simp
  rw [e, List.map_id, rngL_map, List.filter_map, natL, List.map_map, g1, g2]
theorem ne_nil {f : Fm} {p : PZ} {R : AH} {σ : AS} {v i : Nat} {l : List Int} (hv : lk v σ = some (.ref (52 + i))) (hi : R[i]? = some (.list (l.map .int))) :
    dNot (dEqL (dVar v) (dList lNil)) σ (Hp f p R) = some (!decide (l = []), Hp f p (R ++ [.list []])) := by
  have : dEqL (dVar v) (dList lNil) σ (Hp f p R) = some (decide (l = []), Hp f p (R ++ [.list []])) :=
    eqL_new (i := i) (j := R.length) (l' := []) (H₁ := Hp f p R) (by simp [dVar, hv]) (by simp [dList, lNil, Hp_len, Hp_app]) (at_pre hi _) (at_new ..)
  unfold dNot; rw [this]
theorem item_hd {f : Fm} {p : PZ} {R : AH} {σ : AS} {v i : Nat} {a : Int} {l : List Int} (hv : lk v σ = some (.ref (52 + i))) (hi : R[i]? = some (.list ((a :: l).map .int))) :
    dItem (dVar v) (dInt 0) σ (Hp f p R) = some (.int a, Hp f p R) := by
  have : idx? ((a :: l).map .int) 0 = some (.int a) := rfl
  simp only [dItem, dVar, hv, dInt, itemOf, Hp_new, hi, this]
/-! a found first square is returned -/
theorem Ret_found {f : Fm} {p : PZ} {R : AH} {σ : AS} {ids : List Nat} {t : TD} {v : Nat} {k : SD} {o : Option Int} (c : Nat → Bool) (hv : v ≠ 20 ∧ v ≠ 23 ∧ v ≠ 25 ∧ v ≠ 24 ∧ v ≠ 72 ∧ v ≠ 19 ∧ v ≠ 65) (L : BlLk f σ)
    (h : ∀ i, i < f.N → ∀ σ', (∀ j, j ≠ 67 → j ∈ ids → lk j σ' = lk j σ) → lk 67 σ' = some (.int i) → ∀ R', ∃ Y, t σ' (Hp f p R') = some (c i, Hp f p (R' ++ Y)))
    (hk : (List.range f.N).filter c = [] → ∀ σ, BlLk f σ → ∀ R, Ret k σ f p R (ofO o)) :
    Ret (bCons (sAss (dComp ids 67 (dRange (lCons (dVar 19) lNil)) t (dVar 67)) (gName v)) (bCons (sIf (dNot (dEqL (dVar v) (dList lNil))) (bCons (sRet (dItem (dVar v) (dInt 0))) bNil) bNil) k)) σ f p R (ofO (match (List.range f.N).filter c with | a :: _ => some (a : Int) | [] => o)) := by
  obtain ⟨Y, e⟩ := comp_rng (f := f) (p := p) (R := R) (ids := ids) (t := t) c L.l19 h
  refine Ret_next (sAss_eq e) ?_
  have L' : BlLk f (put v (.ref (52 + R.length)) σ) := L.put hv
  have lv : lk v (put v (.ref (52 + R.length)) σ) = some (.ref (52 + R.length)) := by rw [lk_put, if_pos rfl]
  generalize put v (.ref (52 + R.length)) σ = σ₁ at L' lv
  have at0 := at_new R (.list ((natL ((List.range f.N).filter c)).map .int)) Y
  generalize hR1 : R ++ .list ((natL ((List.range f.N).filter c)).map .int) :: Y = R1 at at0
  have ne := ne_nil (f := f) (p := p) lv at0
  cases hc : (List.range f.N).filter c with
  | nil =>
    rw [hc] at ne at0
    exact Ret_next (σ₁ := σ₁) (sIf_f ne rfl) (hk hc _ L' _)
  | cons a r =>
    rw [hc] at ne at0
    have at1 := at_pre at0 [AO.list []]
    exact Ret_ret (X := [AO.list []]) (σ' := σ₁) (sIf_t ne (bCons_ret (sRet_eq (item_hd (l := natL r) lv at1))))
/-! pawns -/
noncomputable def pawnAt (f : Fm) (p : PZ) (i : Nat) : Bool := (gz p.B i == 1 || gz p.B i == 9) && (decide ((i : Int) < f.F) || decide ((f.N : Int) - f.F ≤ i))
noncomputable def blT10 : SD := (bCons (sAss (dComp [19, 65, 23] 67 (dRange (lCons (dVar 19) (lNil))) (dAnd (dIn (dItem (dVar 65) (dVar 67)) (dTup (lCons (dInt 1) (lCons (dInt 9) (lNil))))) (dAnd (dOr (dCmp (kLt) (dVar 67) (dVar 23)) (dOr (dCmp (kGe) (dVar 67) (dBin oSub (dVar 19) (dVar 23))) (dFF))) (dTT))) (dVar 67)) (gName 80))
  (bCons (sIf (dNot (dEqL (dVar 80) (dList (lNil)))) (bCons (sRet (dItem (dVar 80) (dInt 0)))
  (bNil)) (bNil)) blT12))
noncomputable def blame10 (f : Fm) (p : PZ) : Option Int := match (List.range f.N).filter (pawnAt f p) with | a :: _ => some (a : Int) | [] => blame12 f p
theorem item65 {f : Fm} {p : PZ} (hB : p.B.length = f.N) {i : Nat} (hi : i < f.N) (R : AH) : itemOf (Hp f p R) (.ref 47) (.int i) = some (.int (gz p.B i)) := by
  have hN := N_le f
  have := item_B (f := f) (p := p) (R := R) (i := i) (by omega) (by omega) (by omega)
  rwa [Int.toNat_natCast] at this
theorem blT10_ok {f : Fm} {p : PZ} (hs : p.side = 0 ∨ p.side = 1) (hB : p.B.length = f.N) {σ : AS} (L : BlLk f σ) (R : AH) : Ret blT10 σ f p R (ofO (blame10 f p)) := by
  refine Ret_found (pawnAt f p) (by decide) L ?_ (fun _ σ L R => blT12_ok hs hB L R)
  intro i hi σ' h1 h2 R'
  have h19 := (h1 19 (by decide) (by decide)).trans L.l19
  have h65 := (h1 65 (by decide) (by decide)).trans L.l65
  have h23 := (h1 23 (by decide) (by decide)).trans L.l23
  have it := item65 (p := p) hB hi R'
  have ein : dIn (dItem (dVar 65) (dVar 67)) (dTup (lCons (dInt 1) (lCons (dInt 9) (lNil)))) σ' (Hp f p R') = some (gz p.B i == 1 || gz p.B i == 9, Hp f p R') := by
    simp [dIn, dItem, dVar, h65, h2, it, dTup, lCons, lNil, dInt, seqOf, intsOf, Bool.beq_comm, eq_comm]
  refine ⟨[], ?_⟩
  rw [List.append_nil]
  unfold pawnAt
  cases c1 : (gz p.B i == 1 || gz p.B i == 9) <;> rw [c1] at ein
  · simp [dAnd, ein]
  · by_cases c2 : (i : Int) < f.F
    · simp [dAnd, ein, dOr, dCmp, kLt, dVar, h2, h23, c2, dTT]
    · by_cases c3 : (f.N : Int) - f.F ≤ i <;> simp [dAnd, ein, dOr, dCmp, kLt, kGe, dVar, h2, h23, h19, dBin, oSub, c2, c3, dTT, dFF]
end Mine
end
/-! part P16 -/
section
open PySem PySem.W PyProof.Rows
set_option maxRecDepth 100000
set_option maxHeartbeats 1000000
set_option linter.unusedVariables false
set_option linter.unusedSimpArgs false
namespace Mine
noncomputable def kBody : SD := (bCons (sAss (dComp [65, 36] 67 (dRange (lCons (dVar 19) (lNil))) (dCmp (kEq) (dItem (dVar 65) (dVar 67)) (dVar 36)) (dVar 67)) (gName 82))
  (bCons (sIf (dCmp (kNe) (dLen (dVar 82)) (dInt 1)) (bCons (sRet (dIf (dNot (dEqL (dVar 82) (dList (lNil)))) (dItem (dVar 82) (dNeg (dInt 1))) (dNeg (dInt 1))))
  (bNil)) (bNil))
  (bNil)))
noncomputable def kingL (f : Fm) (p : PZ) (k : Int) : List Nat := (List.range f.N).filter fun i => gz p.B i == k
noncomputable def kingQ (l : List Nat) : Option Int := if l.length = 1 then none else match l.getLast? with | some a => some (a : Int) | none => some (-1)
theorem kBody_ok {f : Fm} {p : PZ} (hB : p.B.length = f.N) {σ : AS} (L : BlLk f σ) {k : Int} (l36 : lk 36 σ = some (.int k)) (R : AH) :
    ∃ σ' Y, BlLk f σ' ∧ kBody σ (Hp f p R) = match kingQ (kingL f p k) with | some q => some (.ret (.int q), σ', Hp f p (R ++ Y)) | none => some (.next, σ', Hp f p (R ++ Y)) := by
  have hN := N_le f
  obtain ⟨Y, e⟩ := comp_rng (f := f) (p := p) (R := R) (ids := [65, 36]) (t := dCmp (kEq) (dItem (dVar 65) (dVar 67)) (dVar 36)) (fun i => gz p.B i == k) L.l19 (by
    intro i hi σ' h1 h2 R'
    have h65 := (h1 65 (by decide) (by decide)).trans L.l65
    have h36 := (h1 36 (by decide) (by decide)).trans l36
    have it := item65 (p := p) hB hi R'
    refine ⟨[], ?_⟩
    by_cases c : gz p.B i = k <;> simp [dCmp, kEq, dItem, dVar, h65, h36, h2, it, c])
  have L' : BlLk f (put 82 (.ref (52 + R.length)) σ) := L.put (by decide)
  have lv : lk 82 (put 82 (.ref (52 + R.length)) σ) = some (.ref (52 + R.length)) := by rw [lk_put, if_pos rfl]
  have s1 := sAss_eq (i := 82) e
  generalize put 82 (.ref (52 + R.length)) σ = σ₁ at L' lv s1
  have at0 := at_new R (.list ((natL (kingL f p k)).map .int)) Y
  have hlen : (kingL f p k).length ≤ 21 := by
    have := List.length_filter_le (fun i => gz p.B i == k) (List.range f.N)
    rw [List.length_range] at this
    unfold kingL; omega
  change sAss _ (gName 82) σ (Hp f p R) = some (.next, σ₁, Hp f p (R ++ .list ((natL (kingL f p k)).map .int) :: Y)) at s1
  generalize kingL f p k = l at at0 hlen s1
  have len : dLen (dVar 82) σ₁ (Hp f p (R ++ .list ((natL l).map .int) :: Y)) = some (.int l.length, Hp f p (R ++ .list ((natL l).map .int) :: Y)) := by
    have : (List.map AV.int (natL l)).length = l.length := by simp [natL]
    simp only [dLen, dVar, lv, Hp_new, at0, this]
    rw [if_pos (by omega)]
  unfold kingQ
  by_cases c1 : l.length = 1
  · rw [if_pos c1]
    refine ⟨σ₁, .list ((natL l).map .int) :: Y, L', ?_⟩
    refine bCons_next s1 (bCons_next (sIf_f (?_ : _ = some (false, _)) rfl) rfl)
    simp [dCmp, kNe, len, dInt, c1]
  · rw [if_neg c1]
    have tt : dCmp (kNe) (dLen (dVar 82)) (dInt 1) σ₁ (Hp f p (R ++ .list ((natL l).map .int) :: Y)) = some (true, Hp f p (R ++ .list ((natL l).map .int) :: Y)) := by
      have : ¬ ((l.length : Int) = 1) := by omega
      simp [dCmp, kNe, len, dInt, this]
    have ne := ne_nil (f := f) (p := p) lv at0
    have at1 := at_pre at0 [AO.list []]
    refine ⟨σ₁, (.list ((natL l).map .int) :: Y) ++ [.list []], L', ?_⟩
    rw [← List.append_assoc]
    cases hl : l with
    | nil =>
      subst hl
      refine bCons_next s1 (bCons_ret (sIf_t tt (bCons_ret (sRet_eq ?_))))
      have ne : dNot (dEqL (dVar 82) (dList lNil)) σ₁ (Hp f p (R ++ .list ((natL []).map .int) :: Y)) = some (false, Hp f p (R ++ .list ((natL []).map .int) :: Y ++ [.list []])) := ne
      simp only [dIf, ne]
      simp [dNeg, dInt]
    | cons a r =>
      subst hl
      have gl : (a :: r).getLast? = some ((a :: r).getLast (by simp)) := List.getLast?_eq_some_getLast (by simp)
      rw [gl]
      refine bCons_next s1 (bCons_ret (sIf_t tt (bCons_ret (sRet_eq ?_))))
      have ne : dNot (dEqL (dVar 82) (dList lNil)) σ₁ (Hp f p (R ++ .list ((natL (a :: r)).map .int) :: Y)) = some (true, Hp f p (R ++ .list ((natL (a :: r)).map .int) :: Y ++ [.list []])) := ne
      simp only [dIf, ne]
      have ix : idx? ((natL (a :: r)).map .int) (-1) = some (.int ((a :: r).getLast (by simp) : Nat)) := by
        unfold idx?
        rw [if_pos (by decide), if_neg (by decide), if_pos (by simp [natL]; omega)]
        have : ((-1 : Int) + ((List.map AV.int (natL (a :: r))).length : Nat)).toNat = r.length := by simp [natL]; omega
        rw [this]
        simp only [natL, List.map_map, List.getElem?_map]
        have : (a :: r)[r.length]? = some ((a :: r).getLast (by simp)) := by
          rw [List.getLast_eq_getElem, List.getElem?_eq_getElem (by simp)]; rfl
        rw [this]; rfl
      simp only [dItem, dVar, lv, dNeg, dInt, itemOf, Hp_new, at1, ix]
end Mine
end
/-! part P17 -/
section
open PySem PySem.W PyProof.Rows
set_option maxRecDepth 100000
set_option maxHeartbeats 1000000
set_option linter.unusedVariables false
set_option linter.unusedSimpArgs false
namespace Mine
noncomputable def blT9 : SD := (bCons (sFor (dTup (lCons (dInt 6) (lCons (dInt 14) (lNil)))) (gName 36) kBody) blT10)
noncomputable def blame9 (f : Fm) (p : PZ) : Option Int := match kingQ (kingL f p 6) with
  | some q => some q
  | none => match kingQ (kingL f p 14) with | some q => some q | none => blame10 f p
theorem blT9_ok {f : Fm} {p : PZ} (hs : p.side = 0 ∨ p.side = 1) (hB : p.B.length = f.N) {σ : AS} (L : BlLk f σ) (R : AH) : Ret blT9 σ f p R (ofO (blame9 f p)) := by
  obtain ⟨σ₁, Y1, L1, e1⟩ := kBody_ok (k := 6) hB (L.put (i := 36) (v := .int 6) (by decide)) (by rw [lk_put, if_pos rfl]) R
  have fr : ∀ r, dFor (gName 36) kBody [.int 6, .int 14] σ (Hp f p R) = r → sFor (dTup (lCons (dInt 6) (lCons (dInt 14) (lNil)))) (gName 36) kBody σ (Hp f p R) = r := by
    intro r h
    have : dTup (lCons (dInt 6) (lCons (dInt 14) (lNil))) σ (Hp f p R) = some (.tup [.int 6, .int 14], Hp f p R) := by simp [dTup, lCons, lNil, dInt]
    unfold sFor; rw [this]; exact h
  unfold blame9
  cases k1 : kingQ (kingL f p 6) with
  | some q =>
    rw [k1] at e1
    refine Ret_ret (X := Y1) (σ' := σ₁) (fr _ ?_)
    simp only [dFor, gName, e1, ofO]
  | none =>
    rw [k1] at e1
    dsimp only at e1
    obtain ⟨σ₂, Y2, L2, e2⟩ := kBody_ok (k := 14) hB (L1.put (i := 36) (v := .int 14) (by decide)) (by rw [lk_put, if_pos rfl]) (R ++ Y1)
    cases k2 : kingQ (kingL f p 14) with
    | some q =>
      rw [k2] at e2
      refine Ret_ret (X := Y1 ++ Y2) (σ' := σ₂) (fr _ ?_)
      simp only [dFor, gName, e1, e2, ofO, List.append_assoc]
    | none =>
      rw [k2] at e2
      refine Ret_next (X := Y1 ++ Y2) (σ₁ := σ₂) (fr _ ?_) (blT10_ok hs hB L2 _)
      simp only [dFor, gName, e1, e2, List.append_assoc]
/-! lying squares -/
noncomputable def blT7 : SD := (bCons (sAss (dComp [20] 67 (dRange (lCons (dVar 19) (lNil))) (dTru (dX (xCall d__law_lies (lCons (dVar 20) (lCons (dVar 67) (lNil)))))) (dVar 67)) (gName 79))
  (bCons (sIf (dNot (dEqL (dVar 79) (dList (lNil)))) (bCons (sRet (dItem (dVar 79) (dInt 0)))
  (bNil)) (bNil)) blT9))
noncomputable def blame7 (f : Fm) (p : PZ) : Option Int := match (List.range f.N).filter (lies p) with | a :: _ => some (a : Int) | [] => blame9 f p
theorem blT7_ok {f : Fm} {p : PZ} (hs : p.side = 0 ∨ p.side = 1) (hB : p.B.length = f.N) (hK : p.K.length = 7) (hD : p.D.length = 2) {σ : AS} (L : BlLk f σ) (R : AH) : Ret blT7 σ f p R (ofO (blame7 f p)) := by
  refine Ret_found (lies p) (by decide) L ?_ (fun _ σ L R => blT9_ok hs hB L R)
  intro i hi σ' h1 h2 R'
  have h20 := (h1 20 (by decide) (by decide)).trans L.l20
  obtain ⟨Y, e⟩ := lies_ok (f := f) (p := p) hB hK hD hi R'
  exact ⟨Y, by simp [dTru, dX, xCall, lCons, lNil, dVar, h20, h2, e, truth]⟩
/-! bit boards beyond the board -/
noncomputable def isWide (f : Fm) (b : Int) : Bool := decide (b < 0) || decide ((2 : Int) ^ f.N ≤ b)
noncomputable def cW (f : Fm) : AV → Bool | .int b => isWide f b | _ => false
noncomputable def blT6 : SD := (bCons (sIf (dNot (dEqL (dComp [19] 10 (dCat (dAttr (dVar 20) 11) (dAttr (dVar 20) 12)) (dOr (dCmp (kLt) (dVar 10) (dInt 0)) (dOr (dCmp (kGe) (dVar 10) (dBin oPow (dInt 2) (dVar 19))) (dFF))) (dVar 10)) (dList (lNil)))) (bCons (sRet (dNeg (dInt 1)))
  (bNil)) (bNil)) blT7)
noncomputable def blame6 (f : Fm) (p : PZ) : Option Int := if (p.K ++ p.D).filter (isWide f) ≠ [] then some (-1) else blame7 f p
theorem blT6_ok {f : Fm} {p : PZ} (hs : p.side = 0 ∨ p.side = 1) (hB : p.B.length = f.N) (hK : p.K.length = 7) (hD : p.D.length = 2) {σ : AS} (L : BlLk f σ) (R : AH) : Ret blT6 σ f p R (ofO (blame6 f p)) := by
  have hN := N_le f
  let R1 := R ++ [AO.list ((p.K ++ p.D).map .int)]
  have hcat : dCat (dAttr (dVar 20) 11) (dAttr (dVar 20) 12) σ (Hp f p R) = some (.ref (52 + R.length), Hp f p R1) := by
    simp [dCat, dAttr, dVar, L.l20, Hp_pos, posD, lk, Hp_K, Hp_D, hK, hD, Hp_len, Hp_app, R1]
  obtain ⟨Y, e⟩ := comp_ok (f := f) (p := p) (R := R) (R' := R1) (ids := [19]) (x := 10) (it := dCat (dAttr (dVar 20) 11) (dAttr (dVar 20) 12)) (t := dOr (dCmp (kLt) (dVar 10) (dInt 0)) (dOr (dCmp (kGe) (dVar 10) (dBin oPow (dInt 2) (dVar 19))) (dFF))) (g := dVar 10) (cW f) id (σ := σ) (l := (p.K ++ p.D).map .int)
    hcat (by simp only [itemsL, Hp_new]; rw [show R1[R.length]? = some (.list ((p.K ++ p.D).map .int)) from at_new ..]) (by simp; omega)
    (by
      intro v hv σ' h1 h2 acc X
      obtain ⟨b, _, rfl⟩ := List.mem_map.mp hv
      have h19 := (h1 19 (by decide) (by decide)).trans L.l19
      have pw : oPow 2 (f.N : Int) = some (2 ^ f.N) := by
        unfold oPow
        rw [if_pos (by unfold smS; exact decide_eq_true (by omega)), Int.toNat_natCast]
      refine ⟨[], ?_, fun _ => by simp [dVar, h2]⟩
      by_cases c1 : b < 0
      · simp [dOr, dCmp, kLt, dVar, h2, dInt, c1, cW, isWide]
      · by_cases c2 : (2 : Int) ^ f.N ≤ b <;> simp [dOr, dCmp, kLt, kGe, dVar, h2, h19, dInt, dBin, pw, dFF, c1, c2, cW, isWide])
  have r : (((p.K ++ p.D).map AV.int).filter (cW f)).map id = ((p.K ++ p.D).filter (isWide f)).map .int := by
    rw [List.map_id, List.filter_map]; rfl
  rw [r] at e
  let R2 := R1 ++ .list (((p.K ++ p.D).filter (isWide f)).map .int) :: Y
  have q : dEqL (dComp [19] 10 (dCat (dAttr (dVar 20) 11) (dAttr (dVar 20) 12)) (dOr (dCmp (kLt) (dVar 10) (dInt 0)) (dOr (dCmp (kGe) (dVar 10) (dBin oPow (dInt 2) (dVar 19))) (dFF))) (dVar 10)) (dList (lNil)) σ (Hp f p R) = some (decide ((p.K ++ p.D).filter (isWide f) = []), Hp f p (R2 ++ [.list []])) :=
    eqL_new (i := R1.length) (j := R2.length) (l' := []) e (by simp [dList, lNil, Hp_len, Hp_app, R2]) (at_pre (at_new ..) _) (at_new ..)
  have ex : R2 ++ [AO.list []] = R ++ ([AO.list ((p.K ++ p.D).map .int)] ++ .list (((p.K ++ p.D).filter (isWide f)).map .int) :: Y ++ [AO.list []]) := by simp [R2, R1]
  rw [ex] at q
  unfold blame6
  by_cases c : (p.K ++ p.D).filter (isWide f) = []
  · rw [if_neg (fun h => h c)]
    rw [decide_eq_true c] at q
    exact Ret_next (σ₁ := σ) (sIf_f (by unfold dNot; rw [q]; rfl) rfl) (blT7_ok hs hB hK hD L _)
  · rw [if_pos c]
    rw [decide_eq_false c] at q
    exact Ret_ret (σ' := σ) (sIf_t (by unfold dNot; rw [q]; rfl) (bCons_ret rfl))
/-! strange men -/
noncomputable def known (m : Int) : Bool := [0, 1, 2, 3, 4, 5, 6, 9, 10, 11, 12, 13, 14].any (· == m)
noncomputable def blT4 : SD := (bCons (sAss (dComp [65] 67 (dRange (lCons (dVar 19) (lNil))) (dNot (dIn (dItem (dVar 65) (dVar 67)) (dK k_law_known))) (dVar 67)) (gName 78))
  (bCons (sIf (dNot (dEqL (dVar 78) (dList (lNil)))) (bCons (sRet (dItem (dVar 78) (dInt 0)))
  (bNil)) (bNil)) blT6))
noncomputable def blame4 (f : Fm) (p : PZ) : Option Int := match (List.range f.N).filter (fun i => !known (gz p.B i)) with | a :: _ => some (a : Int) | [] => blame6 f p
theorem blT4_ok {f : Fm} {p : PZ} (hs : p.side = 0 ∨ p.side = 1) (hB : p.B.length = f.N) (hK : p.K.length = 7) (hD : p.D.length = 2) {σ : AS} (L : BlLk f σ) (R : AH) : Ret blT4 σ f p R (ofO (blame4 f p)) := by
  refine Ret_found (fun i => !known (gz p.B i)) (by decide) L ?_ (fun _ σ L R => blT6_ok hs hB hK hD L R)
  intro i hi σ' h1 h2 R'
  have h65 := (h1 65 (by decide) (by decide)).trans L.l65
  have it := item65 (p := p) hB hi R'
  refine ⟨[], ?_⟩
  rw [List.append_nil]
  simp only [dNot, dIn, dItem, dVar, h65, h2, it, dK, k_law_known, seqOf, intsOf, known]
end Mine
end
/-! part P18 -/
section
open PySem PySem.W PyProof.Rows
set_option maxRecDepth 100000
set_option maxHeartbeats 1000000
set_option linter.unusedVariables false
set_option linter.unusedSimpArgs false
namespace Mine
noncomputable abbrev bad0 (f : Fm) (p : PZ) : Prop := ¬ (p.side = 0 ∨ p.side = 1) ∨ p.half < 0 ∨ p.full < 1 ∨ ¬ (p.B.length = f.N ∧ p.K.length = 7 ∧ p.D.length = 2)
noncomputable def blame (f : Fm) (p : PZ) : Option Int := if bad0 f p then some (-1) else blame4 f p
/-- what _law_blamed answers -/
theorem blamed_ok {f : Fm} {p : PZ} (nB : p.B.length ≤ 1000) (nK : p.K.length ≤ 1000) (nD : p.D.length ≤ 1000) (R : AH) :
    ∃ Y, d__law_blamed [.ref 45, .int f.F, .int f.Rk, .bool f.dbl, .bool f.wng] (Hp f p R) = some (.val (ofO (blame f p)), Hp f p (R ++ Y)) := by
  have hN := N_le f
  let σ₀ : AS := [(20, .ref 45), (23, .int f.F), (25, .int f.Rk), (24, .bool f.dbl), (72, .bool f.wng)]
  let σ₁ : AS := σ₀ ++ [(19, .int f.N), (65, .ref 47)]
  have s1 : sAss (dTup (lCons (dBin oMul (dVar 23) (dVar 25)) (lCons (dAttr (dVar 20) 10) (lNil)))) (gTup (gsCons (gName 19) (gsCons (gName 65) (gsNil)))) σ₀ (Hp f p R) = some (.next, σ₁, Hp f p R) := by
    have sF : sm f.F = true := by cases f <;> decide
    have nFR : f.F * f.Rk = f.N := by cases f <;> decide
    simp [sAss, dTup, lCons, lNil, dBin, dVar, σ₀, σ₁, lk, oMul, sF, nFR, dAttr, Hp_pos, posD, gTup, gsCons, gsNil, gName, put]
  let ls : List Int := [p.B.length, p.K.length, p.D.length]
  let R1 := R ++ [AO.list (ls.map .int)]
  let σ₂ : AS := σ₁ ++ [(77, .ref (52 + R.length))]
  have s2 : sAss (dList (lCons (dLen (dVar 65)) (lCons (dLen (dAttr (dVar 20) 11)) (lCons (dLen (dAttr (dVar 20) 12)) (lNil))))) (gName 77) σ₁ (Hp f p R) = some (.next, σ₂, Hp f p R1) := by
    simp [sAss, dList, lCons, lNil, dLen, dVar, dAttr, σ₂, σ₁, σ₀, lk, Hp_pos, posD, Hp_B, Hp_K, Hp_D, nB, nK, nD, gName, put, Hp_len, Hp_app, R1, ls]
  have L : BlLk f σ₂ := ⟨rfl, rfl, rfl, rfl, rfl, rfl, rfl⟩
  let tst : TD := dOr (dNot (dIn (dAttr (dVar 20) 5) (dTup (lCons (dInt 0) (lCons (dInt 1) (lNil)))))) (dOr (dCmp (kLt) (dAttr (dVar 20) 15) (dInt 0)) (dOr (dCmp (kLt) (dAttr (dVar 20) 16) (dInt 1)) (dOr (dNot (dEqL (dVar 77) (dList (lCons (dVar 19) (lCons (dInt 7) (lCons (dInt 2) (lNil))))))) (dFF))))
  have ein : dIn (dAttr (dVar 20) 5) (dTup (lCons (dInt 0) (lCons (dInt 1) (lNil)))) σ₂ (Hp f p R1) = some (decide (p.side = 0 ∨ p.side = 1), Hp f p R1) := by
    have a : dAttr (dVar 20) 5 σ₂ (Hp f p R1) = some (.int p.side, Hp f p R1) := by simp [dAttr, dVar, L.l20, Hp_pos, posD, lk]
    have b : dTup (lCons (dInt 0) (lCons (dInt 1) (lNil))) σ₂ (Hp f p R1) = some (.tup [.int 0, .int 1], Hp f p R1) := by simp [dTup, lCons, lNil, dInt]
    simp only [dIn, a, b, seqOf, intsOf]
    congr 2
    by_cases c0 : p.side = 0
    · simp [c0]
    · by_cases c1 : p.side = 1
      · simp [c1]
      · simp [c0, c1, Ne.symm c0, Ne.symm c1]
  have eqq : dEqL (dVar 77) (dList (lCons (dVar 19) (lCons (dInt 7) (lCons (dInt 2) (lNil))))) σ₂ (Hp f p R1) = some (decide (ls = [(f.N : Int), 7, 2]), Hp f p (R1 ++ [.list (([(f.N : Int), 7, 2] : List Int).map .int)])) :=
    eqL_new (i := R.length) (j := R1.length) (H₁ := Hp f p R1) rfl (by simp [dList, lCons, lNil, dVar, L.l19, dInt, Hp_len, Hp_app]) (at_pre (at_new ..) _) (at_new ..)
  have lse : ls = [(f.N : Int), 7, 2] ↔ (p.B.length = f.N ∧ p.K.length = 7 ∧ p.D.length = 2) := by
    simp only [ls, List.cons.injEq]
    constructor
    · rintro ⟨a, b, c, _⟩; exact ⟨by omega, by omega, by omega⟩
    · rintro ⟨a, b, c⟩; exact ⟨by omega, by omega, by omega, trivial⟩
  have ah : dCmp (kLt) (dAttr (dVar 20) 15) (dInt 0) σ₂ (Hp f p R1) = some (decide (p.half < 0), Hp f p R1) := by
    simp [dCmp, kLt, dAttr, dVar, L.l20, Hp_pos, posD, lk, dInt]
  have af : dCmp (kLt) (dAttr (dVar 20) 16) (dInt 1) σ₂ (Hp f p R1) = some (decide (p.full < 1), Hp f p R1) := by
    simp [dCmp, kLt, dAttr, dVar, L.l20, Hp_pos, posD, lk, dInt]
  have key : ∃ X, tst σ₂ (Hp f p R1) = some (decide (bad0 f p), Hp f p (R1 ++ X)) := by
    unfold bad0
    by_cases c1 : p.side = 0 ∨ p.side = 1
    · by_cases c2 : p.half < 0
      · exact ⟨[], by simp [tst, dOr, dNot, ein, ah, c1, c2]⟩
      · by_cases c3 : p.full < 1
        · exact ⟨[], by simp [tst, dOr, dNot, ein, ah, af, c1, c2, c3]⟩
        · refine ⟨[.list (([(f.N : Int), 7, 2] : List Int).map .int)], ?_⟩
          by_cases c4 : ls = [(f.N : Int), 7, 2]
          · have c4' := lse.mp c4
            rw [decide_eq_true c4] at eqq
            rw [decide_eq_true c1] at ein
            rw [decide_eq_false c2] at ah
            rw [decide_eq_false c3] at af
            simp only [tst, dOr, dNot, ein, ah, af, eqq, dFF, Bool.not_true]
            simp [c1, c2, c3, c4']
          · have c4' := fun h => c4 (lse.mpr h)
            rw [decide_eq_false c4] at eqq
            rw [decide_eq_true c1] at ein
            rw [decide_eq_false c2] at ah
            rw [decide_eq_false c3] at af
            simp only [tst, dOr, dNot, ein, ah, af, eqq, dFF, Bool.not_true, Bool.not_false]
            simp [c1, c2, c3, c4']
            by_cases a : p.B.length = f.N
            · by_cases b : p.K.length = 7
              · exact .inr (.inr fun d => c4' ⟨a, b, d⟩)
              · exact .inr (.inl b)
            · exact .inl a
    · exact ⟨[], by simp only [tst, dOr, dNot, ein]; simp [c1]⟩
  obtain ⟨X, key⟩ := key
  have fin : ∀ v, Ret (bCons (sIf tst (bCons (sRet (dNeg (dInt 1))) bNil) bNil) blT4) σ₂ f p R1 v → ∃ Y, d__law_blamed [.ref 45, .int f.F, .int f.Rk, .bool f.dbl, .bool f.wng] (Hp f p R) = some (.val v, Hp f p (R ++ Y)) := by
    intro v ⟨σ', Y, h⟩
    refine ⟨[AO.list (ls.map .int)] ++ Y, ?_⟩
    rw [← List.append_assoc]
    exact fDef_ret rfl (bCons_next s1 (bCons_next s2 h))
  apply fin
  unfold blame
  by_cases c : bad0 f p
  · rw [if_pos c]
    rw [decide_eq_true c] at key
    exact Ret_ret (σ' := σ₂) (sIf_t key (bCons_ret rfl))
  · rw [if_neg c]
    rw [decide_eq_false c] at key
    have c1 : p.side = 0 ∨ p.side = 1 := by
      by_cases h : p.side = 0 ∨ p.side = 1
      · exact h
      · exact absurd (.inl h) c
    have c2 : p.B.length = f.N ∧ p.K.length = 7 ∧ p.D.length = 2 := by
      by_cases h : p.B.length = f.N ∧ p.K.length = 7 ∧ p.D.length = 2
      · exact h
      · exact absurd (.inr (.inr (.inr h))) c
    exact Ret_next (σ₁ := σ₂) (sIf_f key rfl) (blT4_ok c1 c2.1 c2.2.1 c2.2.2 L _)
end Mine
end
/-! part P19 -/
section
open PySem PySem.W PyProof.Rows
set_option maxRecDepth 100000
set_option maxHeartbeats 1000000
set_option linter.unusedVariables false
set_option linter.unusedSimpArgs false
namespace Mine
/-! filtered ranges: first and last -/
theorem fr_succ (c : Nat → Bool) (n : Nat) : (List.range (n + 1)).filter c = (List.range n).filter c ++ (if c n then [n] else []) := by
  rw [List.range_succ, List.filter_append]
  cases hc : c n <;> simp [hc]
theorem fr_nil {c : Nat → Bool} {n : Nat} : (List.range n).filter c = [] ↔ ∀ i, i < n → c i = false := by
  rw [List.filter_eq_nil_iff]
  constructor
  · intro h i hi
    have := h i (List.mem_range.mpr hi)
    cases hc : c i
    · rfl
    · exact absurd hc this
  · intro h i hi
    rw [h i (List.mem_range.mp hi)]; decide
theorem fr_head {c : Nat → Bool} {k : Nat} (hk : c k = true) (lo : ∀ i, i < k → c i = false) : ∀ n, k < n → ∃ r, (List.range n).filter c = k :: r := by
  intro n
  induction n with
  | zero => intro h; omega
  | succ n ih =>
    intro h
    rw [fr_succ]
    by_cases e : k = n
    · subst e
      rw [fr_nil.mpr lo, hk]; exact ⟨[], rfl⟩
    · obtain ⟨r, hr⟩ := ih (by omega)
      rw [hr]; exact ⟨_, rfl⟩
theorem fr_last {c : Nat → Bool} {k : Nat} (hk : c k = true) : ∀ n, k < n → (∀ i, k < i → i < n → c i = false) → ((List.range n).filter c).getLast? = some k := by
  intro n
  induction n with
  | zero => intro h; omega
  | succ n ih =>
    intro h hi
    rw [fr_succ]
    by_cases e : k = n
    · subst e; rw [hk]; simp
    · rw [hi n (by omega) (by omega)]
      simp only [Bool.false_eq_true, if_false, List.append_nil]
      exact ih (by omega) (fun i h1 h2 => hi i h1 (by omega))
theorem fr_one {c : Nat → Bool} {k : Nat} (hk : c k = true) {n : Nat} (hn : k < n) (o : ∀ i, i < n → i ≠ k → c i = false) : (List.range n).filter c = [k] := by
  have : ∀ n, k < n → (∀ i, i < n → i ≠ k → c i = false) → (List.range n).filter c = [k] := by
    intro n
    induction n with
    | zero => intro h; omega
    | succ n ih =>
      intro h o
      rw [fr_succ]
      by_cases e : k = n
      · subst e
        rw [fr_nil.mpr (fun i hi => o i (by omega) (by omega)), hk]; rfl
      · rw [ih (by omega) (fun i h1 h2 => o i (by omega) h2), o n (by omega) (fun e' => e e'.symm)]; rfl
  exact this n hn o
theorem fr_two {c : Nat → Bool} {k i : Nat} (hk : c k = true) (hi : c i = true) (ne : i ≠ k) {n : Nat} (hkn : k < n) (hin : i < n) : ((List.range n).filter c).length ≠ 1 := by
  intro h
  have mk : k ∈ (List.range n).filter c := List.mem_filter.mpr ⟨List.mem_range.mpr hkn, hk⟩
  have mi : i ∈ (List.range n).filter c := List.mem_filter.mpr ⟨List.mem_range.mpr hin, hi⟩
  obtain ⟨a, ha⟩ := List.length_eq_one_iff.mp h
  rw [ha] at mk mi
  rw [List.mem_singleton] at mk mi
  omega
/-! boards that agree -/
noncomputable def isK (p : PZ) (k i : Nat) : Bool := decide (gz p.B i ≠ 0 ∧ (k : Int) = (gz p.B i).fmod 8)
noncomputable def isS (p : PZ) (s i : Nat) : Bool := decide (gz p.B i ≠ 0 ∧ (gz p.B i).fdiv 8 = s)
structure Agree (f : Fm) (p : PZ) : Prop where
  hB : p.B.length = f.N
  hK : p.K.length = 7
  hD : p.D.length = 2
  bK : ∀ k, k < 7 → ∀ i, bt (gz p.K k) i = (decide (i < f.N) && isK p k i)
  bD : ∀ s, s < 2 → ∀ i, bt (gz p.D s) i = (decide (i < f.N) && isS p s i)
theorem pieces_ok {f : Fm} {p : PZ} (hK : p.K.length = 7) (hD : p.D.length = 2) {s k : Nat} (hs : s < 2) (hk : k < 7) (R : AH) :
    d_pieces [.ref 45, .int s, .int k] (Hp f p R) = some (.val (.int (Builtin.bitAnd (gz p.D s) (gz p.K k))), Hp f p R) := by
  have i1 := item_D (f := f) (p := p) (R := R) (i := s) (by omega) (by omega) (by omega)
  have i2 := item_K (f := f) (p := p) (R := R) (i := k) (by omega) (by omega) (by omega)
  rw [Int.toNat_natCast] at i1 i2
  simp [d_pieces, fDef, List.zip, List.zipWith, b_pieces, bCons, sRet, dBin, dItem, dAttr, dVar, lk, Hp_pos, posD, i1, i2, oAnd, outOf]
theorem pieces_bits {f : Fm} {p : PZ} (A : Agree f p) {s k : Nat} (hs : s < 2) (hk : k < 7) (k0 : 0 < k) (i : Nat) :
    bt (Builtin.bitAnd (gz p.D s) (gz p.K k)) i = (decide (i < f.N) && (gz p.B i == ((s * 8 + k : Nat) : Int))) := by
  rw [bt_and, A.bK k hk, A.bD s hs]
  unfold isK isS
  generalize gz p.B i = m
  rw [Int.fmod_eq_emod_of_nonneg _ (by decide), Int.fdiv_eq_ediv_of_nonneg _ (by decide)]
  by_cases c : i < f.N
  · simp only [decide_eq_true c, Bool.true_and]
    rw [Bool.eq_iff_iff]
    simp only [Bool.and_eq_true, decide_eq_true_eq, beq_iff_eq]
    constructor
    · rintro ⟨⟨_, a⟩, ⟨_, b⟩⟩; omega
    · intro e; refine ⟨⟨?_, ?_⟩, ?_, ?_⟩ <;> omega
  · simp only [decide_eq_false c, Bool.false_and]
theorem small_of_bits {f : Fm} {x : Int} (h : ∀ i, f.N ≤ i → bt x i = false) : 0 ≤ x ∧ x < 2 ^ 64 := by
  have := (bt_range x f.N).mpr h
  have hN := N_le f
  exact ⟨this.1, Int.lt_of_lt_of_le this.2 (p2_le (by omega))⟩
end Mine
end
/-! part P20 -/
section
open PySem PySem.W PyProof.Rows
set_option maxRecDepth 100000
set_option maxHeartbeats 1000000
set_option linter.unusedVariables false
set_option linter.unusedSimpArgs false
namespace Mine
noncomputable def ckBody : SD := (bCons (sAss (dX (xCall d_pieces (lCons (dVar 20) (lCons (dVar 5) (lCons (dK (.int 6)) (lNil)))))) (gName 28))
  (bCons (sIf (dCmp (kEq) (dVar 28) (dInt 0)) (bCons (sRaise (dNeg (dInt 1)))
  (bNil)) (bNil))
  (bCons (sIf (dTru (dX (xCall d_more_than_one (lCons (dVar 28) (lNil))))) (bCons (sRaise (dX (xCall d_highest (lCons (dVar 28) (lNil)))))
  (bNil)) (bNil))
  (bNil))))
theorem bCons_exc {a b : SD} {σ σ' : AS} {H H' : AH} {q : Int} (h : a σ H = some (.exc q, σ', H')) : bCons a b σ H = some (.exc q, σ', H') := by
  unfold bCons; rw [h]
theorem fDef_exc {ps : List Nat} {b : SD} {vs : List AV} {H H' : AH} {σ : AS} {q : Int} (hl : vs.length = ps.length) (h : b (ps.zip vs) H = some (.exc q, σ, H')) : fDef ps b vs H = some (.exc q, H') := by
  unfold fDef outOf; rw [if_pos hl, h]
theorem fDef_next {ps : List Nat} {b : SD} {vs : List AV} {H H' : AH} {σ : AS} (hl : vs.length = ps.length) (h : b (ps.zip vs) H = some (.next, σ, H')) : fDef ps b vs H = some (.val .none, H') := by
  unfold fDef outOf; rw [if_pos hl, h]
theorem ckBody_ok {f : Fm} {p : PZ} (A : Agree f p) {s : Nat} (hs : s < 2) {σ : AS} (l20 : lk 20 σ = some (.ref 45)) (l5 : lk 5 σ = some (.int s)) (R : AH) :
    ∃ σ', lk 20 σ' = some (.ref 45) ∧ ckBody σ (Hp f p R) = match kingQ (kingL f p ((s * 8 + 6 : Nat) : Int)) with | some q => some (.exc q, σ', Hp f p R) | none => some (.next, σ', Hp f p R) := by
  have pv := pieces_ok (f := f) (p := p) A.hK A.hD hs (k := 6) (by decide) R
  have pb := pieces_bits A hs (k := 6) (by decide) (by decide)
  generalize Builtin.bitAnd (gz p.D s) (gz p.K 6) = x at pv pb
  have s1 : sAss (dX (xCall d_pieces (lCons (dVar 20) (lCons (dVar 5) (lCons (dK (.int 6)) (lNil)))))) (gName 28) σ (Hp f p R) = some (.next, put 28 (.int x) σ, Hp f p R) := by
    refine sAss_eq ?_
    have pv' : d_pieces [.ref 45, .int s, .int 6] (Hp f p R) = some (.val (.int x), Hp f p R) := pv
    simp only [dX, xCall, lCons, lNil, dVar, l20, l5, dK, pv']
  have l28 : lk 28 (put 28 (.int x) σ) = some (.int x) := by rw [lk_put, if_pos rfl]
  have l20' : lk 20 (put 28 (.int x) σ) = some (.ref 45) := by rw [lk_put, if_neg (by decide)]; exact l20
  generalize put 28 (.int x) σ = σ₁ at s1 l28 l20'
  refine ⟨σ₁, l20', ?_⟩
  have hi : ∀ i, f.N ≤ i → bt x i = false := by
    intro i hi; rw [pb, decide_eq_false (by omega)]; rfl
  obtain ⟨x0, x1⟩ := small_of_bits hi
  have cc : ∀ i, i < f.N → bt x i = (gz p.B i == ((s * 8 + 6 : Nat) : Int)) := by
    intro i hi; rw [pb, decide_eq_true hi]; rfl
  have fl : kingL f p ((s * 8 + 6 : Nat) : Int) = (List.range f.N).filter (bt x) := by
    unfold kingL
    apply List.filter_congr
    intro i hi
    exact (cc i (List.mem_range.mp hi)).symm
  rw [fl]
  have lt : ∀ i, bt x i = true → i < f.N := by
    intro i h
    by_cases c : i < f.N
    · exact c
    · rw [hi i (by omega)] at h; cases h
  by_cases xz : x = 0
  · have : (List.range f.N).filter (bt x) = [] := fr_nil.mpr (fun i _ => by rw [xz, bt_zero])
    rw [this]
    refine bCons_next s1 (bCons_exc (sIf_t (H' := Hp f p R) ?_ (bCons_exc (q := -1) ?_)))
    · simp [dCmp, kEq, dVar, l28, dInt, xz]
    · simp [sRaise, dNeg, dInt]
  · have xp : 0 < x := by omega
    have t0 : sIf (dCmp (kEq) (dVar 28) (dInt 0)) (bCons (sRaise (dNeg (dInt 1))) (bNil)) (bNil) σ₁ (Hp f p R) = some (.next, σ₁, Hp f p R) := by
      refine sIf_f (H' := Hp f p R) ?_ rfl
      simp [dCmp, kEq, dVar, l28, dInt, xz]
    obtain ⟨k, _, bk, lo⟩ := lowest_bits xp x1 (Hp f p R)
    obtain ⟨q, hq, bq, up⟩ := highest_bits xp x1 (Hp f p R)
    have mb := mto_bits bk lo
    have mv := mto_val x (Hp f p R)
    by_cases one : Builtin.bitAnd x (x - 1) = 0
    · have ho : ∀ i, i ≠ k → bt x i = false := by
        intro i hi
        have := (bt_eq_zero _).mp one i
        rw [mb, decide_eq_false hi] at this
        simpa using this
      have : (List.range f.N).filter (bt x) = [k] := fr_one bk (lt k bk) (fun i _ h => ho i h)
      rw [this]
      refine bCons_next s1 (bCons_next t0 (bCons_next (sIf_f (H' := Hp f p R) ?_ rfl) rfl))
      simp [dTru, dX, xCall, lCons, lNil, dVar, l28, mv, one, truth]
    · have qk : q ≠ k := by
        intro e
        apply one
        rw [bt_eq_zero]
        intro i
        rw [mb]
        by_cases c : i = k
        · rw [decide_eq_true c]; simp
        · rcases Nat.lt_or_gt_of_ne c with h | h
          · rw [lo i h]; rfl
          · rw [up i (by omega)]; rfl
      have l1 := fr_two bk bq qk (lt k bk) (lt q bq)
      have gl := fr_last bq f.N (lt q bq) (fun i h _ => up i h)
      unfold kingQ
      rw [if_neg l1, gl]
      refine bCons_next s1 (bCons_next t0 (bCons_exc (sIf_t (H' := Hp f p R) ?_ (bCons_exc ?_))))
      · simp [dTru, dX, xCall, lCons, lNil, dVar, l28, mv, one, truth]
      · simp [sRaise, dX, xCall, lCons, lNil, dVar, l28, hq]
noncomputable def outO : Option Int → Out | none => .val .none | some q => .exc q
noncomputable def kings2 (f : Fm) (p : PZ) : Option Int := match kingQ (kingL f p 6) with | some q => some q | none => kingQ (kingL f p 14)
theorem check_kings_ok {f : Fm} {p : PZ} (A : Agree f p) (R : AH) : d_check_kings [.ref 45] (Hp f p R) = some (outO (kings2 f p), Hp f p R) := by
  let σ : AS := [(20, .ref 45)]
  obtain ⟨σ₁, m1, e1⟩ := ckBody_ok A (s := 0) (by decide) (σ := put 5 (.int 0) σ) rfl rfl R
  have fr : ∀ r, dFor (gName 5) ckBody [.int 0, .int 1] σ (Hp f p R) = r → sFor (dTup (lCons (dK (.int 0)) (lCons (dK (.int 1)) (lNil)))) (gName 5) ckBody σ (Hp f p R) = r := by
    intro r h
    have : dTup (lCons (dK (.int 0)) (lCons (dK (.int 1)) (lNil))) σ (Hp f p R) = some (.tup [.int 0, .int 1], Hp f p R) := by simp [dTup, lCons, lNil, dK]
    unfold sFor; rw [this]; exact h
  have e1 : ckBody (put 5 (.int 0) σ) (Hp f p R) = match kingQ (kingL f p 6) with | some q => some (.exc q, σ₁, Hp f p R) | none => some (.next, σ₁, Hp f p R) := e1
  unfold kings2
  cases k1 : kingQ (kingL f p 6) with
  | some q =>
    rw [k1] at e1
    refine fDef_exc (σ := σ₁) rfl (bCons_exc (fr _ ?_))
    simp only [dFor, gName, e1]
  | none =>
    rw [k1] at e1
    dsimp only at e1
    obtain ⟨σ₂, m2, e2⟩ := ckBody_ok A (s := 1) (by decide) (σ := put 5 (.int 1) σ₁) (by rw [lk_put, if_neg (by decide)]; exact m1) (by rw [lk_put, if_pos rfl]; rfl) R
    have e2 : ckBody (put 5 (.int 1) σ₁) (Hp f p R) = match kingQ (kingL f p 14) with | some q => some (.exc q, σ₂, Hp f p R) | none => some (.next, σ₂, Hp f p R) := e2
    cases k2 : kingQ (kingL f p 14) with
    | some q =>
      rw [k2] at e2
      refine fDef_exc (σ := σ₂) rfl (bCons_exc (fr _ ?_))
      simp only [dFor, gName, e1, e2]
    | none =>
      rw [k2] at e2
      refine fDef_next (σ := σ₂) rfl (bCons_next (fr _ ?_) rfl)
      simp only [dFor, gName, e1, e2]
end Mine
end
/-! part P21 -/
section
open PySem PySem.W PyProof.Rows
set_option maxRecDepth 100000
set_option maxHeartbeats 1000000
set_option linter.unusedVariables false
set_option linter.unusedSimpArgs false
namespace Mine
noncomputable def outer (f : Fm) : Int := Builtin.bitOr (gz (rmL f) 0) (gz (rmL f) (f.Rk - 1).toNat)
theorem outer_bits (f : Fm) (i : Nat) (hi : i < f.N) : bt (outer f) i = (decide ((i : Int) < f.F) || decide ((f.N : Int) - f.F ≤ i)) := by
  have : ∀ j : Fin f.N, bt (outer f) j.val = (decide ((j.val : Int) < f.F) || decide ((f.N : Int) - f.F ≤ j.val)) := by
    cases f <;> decide
  exact this ⟨i, hi⟩
noncomputable def pawns1 (f : Fm) (p : PZ) : Option Int := match (List.range f.N).filter (pawnAt f p) with | a :: _ => some (a : Int) | [] => none
theorem known_lt {m : Int} (h : known m = true) : 0 ≤ m ∧ m < 15 := by
  obtain ⟨k, hk, e⟩ := List.any_eq_true.mp h
  have := (by decide : ∀ k ∈ ([0, 1, 2, 3, 4, 5, 6, 9, 10, 11, 12, 13, 14] : List Int), 0 ≤ k ∧ k < 15) k hk
  rwa [eq_of_beq e] at this
theorem known_cases {m : Int} (h : known m = true) : m = 0 ∨ m = 1 ∨ m = 2 ∨ m = 3 ∨ m = 4 ∨ m = 5 ∨ m = 6 ∨ m = 9 ∨ m = 10 ∨ m = 11 ∨ m = 12 ∨ m = 13 ∨ m = 14 := by
  obtain ⟨a, b⟩ := known_lt h
  obtain ⟨n, rfl⟩ := Int.eq_ofNat_of_zero_le a
  exact (by decide +kernel : ∀ n : Fin 15, known (n.1 : Int) = true → (n.1 : Int) = 0 ∨ (n.1 : Int) = 1 ∨ (n.1 : Int) = 2 ∨ (n.1 : Int) = 3 ∨ (n.1 : Int) = 4 ∨ (n.1 : Int) = 5 ∨ (n.1 : Int) = 6 ∨ (n.1 : Int) = 9 ∨ (n.1 : Int) = 10 ∨ (n.1 : Int) = 11 ∨ (n.1 : Int) = 12 ∨ (n.1 : Int) = 13 ∨ (n.1 : Int) = 14) ⟨n, by omega⟩ h
theorem check_pawns_ok {f : Fm} {p : PZ} (A : Agree f p) (kn : ∀ i, i < f.N → known (gz p.B i) = true) (R : AH) : d_check_pawns [.ref 45] (Hp f p R) = some (outO (pawns1 f p), Hp f p R) := by
  have hK := A.hK
  have i1 := item_K (f := f) (p := p) (R := R) (i := 1) (by decide) (by omega) (by omega)
  have i1 : itemOf (Hp f p R) (.ref 49) (.int 1) = some (.int (gz p.K 1)) := i1
  have r0 : itemOf (Hp f p R) (.ref 15) (.int 0) = some (.int (gz (rmL f) 0)) := by
    simp only [itemOf, Hp_rm]; cases f <;> rfl
  have r1 : itemOf (Hp f p R) (.ref 15) (.int (f.Rk - 1)) = some (.int (gz (rmL f) (f.Rk - 1).toNat)) := by
    simp only [itemOf, Hp_rm]; cases f <;> rfl
  have bits : ∀ i, bt (Builtin.bitAnd (gz p.K 1) (outer f)) i = (decide (i < f.N) && pawnAt f p i) := by
    intro i
    rw [bt_and, A.bK 1 (by decide)]
    by_cases c : i < f.N
    · rw [outer_bits f i c, decide_eq_true c, Bool.true_and, Bool.true_and]
      unfold pawnAt
      congr 1
      unfold isK
      rcases known_cases (kn i c) with h | h | h | h | h | h | h | h | h | h | h | h | h <;> rw [h] <;> decide
    · rw [decide_eq_false c]; simp
  let σ₁ : AS := [(20, .ref 45), (8, .ref 13)]
  have s1 : sAss (dAttr (dVar 20) 8) (gName 8) [(20, .ref 45)] (Hp f p R) = some (.next, σ₁, Hp f p R) := by
    simp [sAss, dAttr, dVar, lk, Hp_pos, posD, gName, put, σ₁]
  generalize hx : Builtin.bitAnd (gz p.K 1) (outer f) = x at bits
  let σ₂ : AS := [(20, .ref 45), (8, .ref 13), (27, .int x)]
  have s2 : sAss (dBin oAnd (dItem (dAttr (dVar 20) 11) (dK (.int 1))) (dBin oOr (dItem (dAttr (dVar 8) 29) (dInt 0)) (dItem (dAttr (dVar 8) 29) (dBin oSub (dAttr (dVar 8) 25) (dInt 1))))) (gName 27) σ₁ (Hp f p R) = some (.next, σ₂, Hp f p R) := by
    have hx' : Builtin.bitAnd (gz p.K 1) (Builtin.bitOr (gz (rmL f) 0) (gz (rmL f) (f.Rk - 1).toNat)) = x := hx
    simp only [sAss, dBin, dItem, dAttr, dVar, lk, σ₁, Hp_pos, Hp_geo, posD, geoD, dK, dInt, if_true, Nat.reduceEqDiff, if_false, i1, r0, oSub, r1, oOr, oAnd, hx', gName, put]
    rfl
  unfold pawns1
  cases hf : (List.range f.N).filter (pawnAt f p) with
  | nil =>
    have xz : x = 0 := by
      rw [bt_eq_zero]
      intro i
      rw [bits]
      by_cases c : i < f.N
      · rw [fr_nil.mp hf i c]; simp
      · rw [decide_eq_false c]; rfl
    refine fDef_next (σ := σ₂) rfl (bCons_next s1 (bCons_next s2 (bCons_next (sIf_f (H' := Hp f p R) ?_ rfl) rfl)))
    simp [dCmp, kNe, dVar, σ₂, lk, dInt, xz]
  | cons a r =>
    have ha : a ∈ (List.range f.N).filter (pawnAt f p) := by rw [hf]; exact List.mem_cons_self ..
    obtain ⟨ha1, ha2⟩ := List.mem_filter.mp ha
    have ha1 := List.mem_range.mp ha1
    have hi : ∀ i, f.N ≤ i → bt x i = false := by
      intro i hi; rw [bits, decide_eq_false (by omega)]; rfl
    obtain ⟨x0, x1⟩ := small_of_bits hi
    have xz : x ≠ 0 := by
      intro e
      have := bits a
      rw [e, bt_zero, decide_eq_true ha1, ha2] at this
      cases this
    obtain ⟨k, hk, bk, lo⟩ := lowest_bits (b := x) (by omega) x1 (Hp f p R)
    have kN : k < f.N := by
      by_cases c : k < f.N
      · exact c
      · rw [hi k (by omega)] at bk; cases bk
    have pk : pawnAt f p k = true := by
      rw [bits, decide_eq_true kN] at bk; exact bk
    obtain ⟨r', e⟩ := fr_head pk (fun i hi' => by
      have := lo i hi'
      rw [bits, decide_eq_true (by omega)] at this
      exact this) f.N kN
    rw [hf] at e
    cases e
    refine fDef_exc (σ := σ₂) rfl (bCons_next s1 (bCons_next s2 (bCons_exc (sIf_t (H' := Hp f p R) ?_ (bCons_exc ?_)))))
    · simp [dCmp, kNe, dVar, σ₂, lk, dInt, xz]
    · simp [sRaise, dX, xCall, lCons, lNil, dVar, σ₂, lk, hk]
end Mine
end
/-! part P22 -/
section
open PySem PySem.W PyProof.Rows
set_option maxRecDepth 100000
set_option maxHeartbeats 1000000
set_option linter.unusedVariables false
set_option linter.unusedSimpArgs false
namespace Mine
theorem mk_ok (s k : Int) (h : sm s = true) (H : AH) : d_make_piece [.int s, .int k] H = some (.val (.int (s * 8 + k)), H) := by
  simp [d_make_piece, fDef, List.zip, List.zipWith, b_make_piece, bCons, sRet, dBin, dVar, lk, dInt, oMul, h, oAdd, outOf]
noncomputable def crBody : SD := (bCons (sIf (dCmp (kEq) (dBin oAnd (dAttr (dVar 20) 13) (dBin oShl (dInt 1) (dVar 30))) (dInt 0)) (bCons (sCont)
  (bNil)) (bNil))
  (bCons (sAss (dItem (dAttr (dAttr (dVar 20) 8) 32) (dVar 30)) (gName 31))
  (bCons (sIf (dIsN (dVar 31)) (bCons (sRaise (dNeg (dInt 1)))
  (bNil)) (bNil))
  (bCons (sIf (dCmp (kNe) (dItem (dAttr (dVar 20) 10) (dItem (dVar 31) (dInt 0))) (dX (xCall d_make_piece (lCons (dBin oShr (dVar 30) (dInt 1)) (lCons (dK (.int 6)) (lNil)))))) (bCons (sRaise (dItem (dVar 31) (dInt 0)))
  (bNil)) (bNil))
  (bCons (sIf (dCmp (kNe) (dItem (dAttr (dVar 20) 10) (dItem (dVar 31) (dInt 2))) (dX (xCall d_make_piece (lCons (dBin oShr (dVar 30) (dInt 1)) (lCons (dK (.int 4)) (lNil)))))) (bCons (sRaise (dItem (dVar 31) (dInt 2)))
  (bNil)) (bNil))
  (bNil))))))
noncomputable def casG (f : Fm) (i : Nat) : Int := match f, i with | .b, 0 => 5 | .b, 1 => 1 | .b, 2 => 19 | .b, _ => 15 | .c, 1 => 1 | _, _ => 13
noncomputable def casW (f : Fm) (i : Nat) : Int := match f, i with | .b, 0 => 4 | .b, 1 => 2 | .b, 2 => 18 | .b, _ => 16 | .c, 1 => 2 | _, _ => 14
theorem cas_ok (f : Fm) {i : Nat} (hi : i < 4) : idx? (casL f) i = match wingP f i with
    | some (h, c) => some (.tup [.int h, .int (casG f i), .int c, .int (casW f i)])
    | none => some .none := by
  match i, hi with
  | 0, _ => cases f <;> rfl
  | 1, _ => cases f <;> rfl
  | 2, _ => cases f <;> rfl
  | 3, _ => cases f <;> rfl
theorem crBody_ok {f : Fm} {p : PZ} (hB : p.B.length = f.N) {i : Nat} (hi : i < 4) {σ : AS} (l20 : lk 20 σ = some (.ref 45)) (l30 : lk 30 σ = some (.int i)) (R : AH) :
    ∃ σ', lk 20 σ' = some (.ref 45) ∧ (match rA f p i with | some q => crBody σ (Hp f p R) = some (.exc q, σ', Hp f p R) | none => crBody σ (Hp f p R) = some (.next, σ', Hp f p R) ∨ crBody σ (Hp f p R) = some (.cont, σ', Hp f p R)) := by
  have hN := N_le f
  have sh : oShl 1 (i : Int) = some (2 ^ i) := by
    unfold oShl
    rw [if_pos (by unfold smS; exact decide_eq_true (by omega)), Int.toNat_natCast, Int.one_mul]
  have ab : Builtin.bitAnd p.rights (2 ^ i) = 0 ↔ bt p.rights i = false := by
    rw [kbt_bit]
    unfold bt
    have := p2_pos i
    by_cases h : p.rights / 2 ^ i % 2 = 1
    · rw [h, Int.one_mul, decide_eq_true rfl]
      constructor
      · intro e; omega
      · intro e; cases e
    · rw [decide_eq_false h, show p.rights / 2 ^ i % 2 = 0 by omega, Int.zero_mul]; exact ⟨fun _ => rfl, fun _ => rfl⟩
  have t1 : dCmp (kEq) (dBin oAnd (dAttr (dVar 20) 13) (dBin oShl (dInt 1) (dVar 30))) (dInt 0) σ (Hp f p R) = some (!bt p.rights i, Hp f p R) := by
    cases hb : bt p.rights i with
    | false => simp [dCmp, kEq, dBin, dAttr, dVar, l20, l30, dInt, Hp_pos, posD, lk, sh, oAnd, ab.mpr hb]
    | true =>
      have : ¬ Builtin.bitAnd p.rights (2 ^ i) = 0 := fun e => by rw [ab.mp e] at hb; cases hb
      simp [dCmp, kEq, dBin, dAttr, dVar, l20, l30, dInt, Hp_pos, posD, lk, sh, oAnd, this]
  unfold rA
  cases hb : bt p.rights i with
  | false =>
    rw [hb] at t1
    refine ⟨σ, l20, ?_⟩
    simp only [Bool.false_eq_true, if_false]
    right
    simp only [crBody, bCons, sIf, t1, Bool.not_false, sCont]
  | true =>
    rw [hb] at t1
    simp only [if_true]
    have q1 : sIf (dCmp (kEq) (dBin oAnd (dAttr (dVar 20) 13) (dBin oShl (dInt 1) (dVar 30))) (dInt 0)) (bCons (sCont) (bNil)) (bNil) σ (Hp f p R) = some (.next, σ, Hp f p R) := sIf_f t1 rfl
    have ci := cas_ok f hi
    have g1 : ∀ v, idx? (casL f) i = some v → dItem (dAttr (dAttr (dVar 20) 8) 32) (dVar 30) σ (Hp f p R) = some (v, Hp f p R) := by
      intro v hv
      simp only [dItem, dAttr, dVar, l20, l30, Hp_pos, Hp_geo, posD, geoD, lk, if_true, Nat.reduceEqDiff, if_false, itemOf, Hp_ca, hv]
    cases hw : wingP f i with
    | none =>
      rw [hw] at ci
      have l31 : lk 31 (put 31 .none σ) = some .none := by rw [lk_put, if_pos rfl]
      refine ⟨put 31 .none σ, by rw [lk_put, if_neg (by decide)]; exact l20, ?_⟩
      refine bCons_next q1 (bCons_next (sAss_eq (g1 _ ci)) (bCons_exc (sIf_t (H' := Hp f p R) ?_ (bCons_exc rfl))))
      simp [dIsN, dVar, l31, isNone]
    | some hc =>
      obtain ⟨h, c⟩ := hc
      rw [hw] at ci
      obtain ⟨h0, h1, c0, c1⟩ := wing_lt hw
      dsimp only at ci
      generalize casG f i = g at ci
      generalize casW f i = w at ci
      have ih := item_B (f := f) (p := p) (R := R) h0 (by omega) (by omega)
      have ic := item_B (f := f) (p := p) (R := R) c0 (by omega) (by omega)
      let t : AV := .tup [.int h, .int g, .int c, .int w]
      have l31 : lk 31 (put 31 t σ) = some t := by rw [lk_put, if_pos rfl]
      have l20' : lk 20 (put 31 t σ) = some (.ref 45) := by rw [lk_put, if_neg (by decide)]; exact l20
      have l30' : lk 30 (put 31 t σ) = some (.int i) := by rw [lk_put, if_neg (by decide)]; exact l30
      have s2 : sAss (dItem (dAttr (dAttr (dVar 20) 8) 32) (dVar 30)) (gName 31) σ (Hp f p R) = some (.next, put 31 t σ, Hp f p R) := sAss_eq (i := 31) (g1 _ ci)
      generalize put 31 t σ = σ₁ at l31 l20' l30' s2
      refine ⟨σ₁, l20', ?_⟩
      have s3 : sIf (dIsN (dVar 31)) (bCons (sRaise (dNeg (dInt 1))) (bNil)) (bNil) σ₁ (Hp f p R) = some (.next, σ₁, Hp f p R) := by
        refine sIf_f (H' := Hp f p R) ?_ rfl
        simp [dIsN, dVar, l31, isNone, t]
      have i0 : itemOf (Hp f p R) t (.int 0) = some (.int h) := rfl
      have i2 : itemOf (Hp f p R) t (.int 2) = some (.int c) := rfl
      have d2 : oShr (i : Int) 1 = some ((i / 2 : Nat) : Int) := by
        have := oShr_nat (i : Int) 1
        rw [show ((1 : Nat) : Int) = 1 from rfl] at this
        rw [this]; rfl
      have smi : sm ((i / 2 : Nat) : Int) = true := by unfold sm; exact decide_eq_true (by omega)
      have a1 : dCmp (kNe) (dItem (dAttr (dVar 20) 10) (dItem (dVar 31) (dInt 0))) (dX (xCall d_make_piece (lCons (dBin oShr (dVar 30) (dInt 1)) (lCons (dK (.int 6)) (lNil))))) σ₁ (Hp f p R) = some (decide (gz p.B h.toNat ≠ 6 + ((i / 2 : Nat) : Int) * 8), Hp f p R) := by
        simp only [dCmp, dItem, dAttr, dVar, l20', l31, l30', Hp_pos, posD, lk, if_true, Nat.reduceEqDiff, if_false, dInt, i0, ih, dX, xCall, lCons, lNil, dBin, d2, dK, mk_ok _ _ smi, kNe]
        rw [Int.add_comm]; simp
      have a2 : dCmp (kNe) (dItem (dAttr (dVar 20) 10) (dItem (dVar 31) (dInt 2))) (dX (xCall d_make_piece (lCons (dBin oShr (dVar 30) (dInt 1)) (lCons (dK (.int 4)) (lNil))))) σ₁ (Hp f p R) = some (decide (gz p.B c.toNat ≠ 4 + ((i / 2 : Nat) : Int) * 8), Hp f p R) := by
        simp only [dCmp, dItem, dAttr, dVar, l20', l31, l30', Hp_pos, posD, lk, if_true, Nat.reduceEqDiff, if_false, dInt, i2, ic, dX, xCall, lCons, lNil, dBin, d2, dK, mk_ok _ _ smi, kNe]
        rw [Int.add_comm]; simp
      have b1 : sRaise (dItem (dVar 31) (dInt 0)) σ₁ (Hp f p R) = some (.exc h, σ₁, Hp f p R) := by simp only [sRaise, dItem, dVar, l31, dInt, i0]
      have b2 : sRaise (dItem (dVar 31) (dInt 2)) σ₁ (Hp f p R) = some (.exc c, σ₁, Hp f p R) := by simp only [sRaise, dItem, dVar, l31, dInt, i2]
      by_cases z1 : gz p.B h.toNat ≠ 6 + ((i / 2 : Nat) : Int) * 8
      · rw [decide_eq_true z1] at a1
        simp only [if_pos z1]
        exact bCons_next q1 (bCons_next s2 (bCons_next s3 (bCons_exc (sIf_t a1 (bCons_exc b1)))))
      · rw [decide_eq_false z1] at a1
        by_cases z2 : gz p.B c.toNat ≠ 4 + ((i / 2 : Nat) : Int) * 8
        · rw [decide_eq_true z2] at a2
          simp only [if_neg z1, if_pos z2]
          exact bCons_next q1 (bCons_next s2 (bCons_next s3 (bCons_next (sIf_f a1 rfl) (bCons_exc (sIf_t a2 (bCons_exc b2))))))
        · rw [decide_eq_false z2] at a2
          simp only [if_neg z1, if_neg z2]
          left
          exact bCons_next q1 (bCons_next s2 (bCons_next s3 (bCons_next (sIf_f a1 rfl) (bCons_next (sIf_f a2 rfl) rfl))))
end Mine
end
/-! part P23 -/
section
open PySem PySem.W PyProof.Rows
set_option maxRecDepth 100000
set_option maxHeartbeats 1000000
set_option linter.unusedVariables false
set_option linter.unusedSimpArgs false
namespace Mine
theorem cr_loop {f : Fm} {p : PZ} (hB : p.B.length = f.N) (R : AH) : ∀ n k : Nat, k + n = 4 → ∀ σ, lk 20 σ = some (.ref 45) →
    ∃ σ', dFor (gName 30) crBody (rngL k 1 n) σ (Hp f p R) = match firstR f p k n with | some q => some (.exc q, σ', Hp f p R) | none => some (.next, σ', Hp f p R) := by
  intro n
  induction n with
  | zero => intro k _ σ _; exact ⟨σ, rfl⟩
  | succ n ih =>
    intro k hk σ L
    obtain ⟨σ', L', e⟩ := crBody_ok (p := p) hB (i := k) (by omega) (σ := put 30 (.int k) σ) (by rw [lk_put, if_neg (by decide)]; exact L) (by rw [lk_put, if_pos rfl]) R
    have e1 : (k : Int) + 1 = ((k + 1 : Nat) : Int) := by omega
    unfold rngL dFor gName firstR
    cases hr : rA f p k with
    | some q =>
      rw [hr] at e
      refine ⟨σ', ?_⟩
      dsimp only at e ⊢
      rw [e]
    | none =>
      rw [hr] at e
      obtain ⟨σ'', e'⟩ := ih (k + 1) (by omega) σ' L'
      refine ⟨σ'', ?_⟩
      dsimp only at e ⊢
      rcases e with e | e
      · rw [e]
        dsimp only
        rw [e1]
        exact e'
      · rw [e]
        dsimp only
        rw [e1]
        exact e'
theorem check_rights_ok {f : Fm} {p : PZ} (hB : p.B.length = f.N) (R : AH) : d_check_rights [.ref 45] (Hp f p R) = some (outO (rightsB f p), Hp f p R) := by
  let σ : AS := [(20, .ref 45)]
  unfold rightsB
  by_cases c : p.rights < 0 ∨ 15 < p.rights
  · rw [if_pos c]
    have : dNot (dChain (kLe) (kLt) (dInt 0) (dAttr (dVar 20) 13) (dInt 16)) σ (Hp f p R) = some (true, Hp f p R) := by
      by_cases c1 : 0 ≤ p.rights
      · have c2 : ¬ p.rights < 16 := by omega
        simp [dNot, dChain, kLe, kLt, dInt, dAttr, dVar, σ, lk, Hp_pos, posD, c1, c2]
      · simp [dNot, dChain, kLe, kLt, dInt, dAttr, dVar, σ, lk, Hp_pos, posD, c1]
    exact fDef_exc (σ := σ) rfl (bCons_exc (sIf_t this (bCons_exc rfl)))
  · rw [if_neg c]
    have : dNot (dChain (kLe) (kLt) (dInt 0) (dAttr (dVar 20) 13) (dInt 16)) σ (Hp f p R) = some (false, Hp f p R) := by
      have c1 : 0 ≤ p.rights := by omega
      have c2 : p.rights < 16 := by omega
      simp [dNot, dChain, kLe, kLt, dInt, dAttr, dVar, σ, lk, Hp_pos, posD, c1, c2]
    obtain ⟨σ', e⟩ := cr_loop (f := f) (p := p) hB R 4 0 rfl σ rfl
    have lp : sFor (dRange (lCons (dInt 4) lNil)) (gName 30) crBody σ (Hp f p R) = dFor (gName 30) crBody (rngL 0 1 4) σ (Hp f p R) := by
      have := items_rng 4 (by decide)
      have hd : dRange (lCons (dInt 4) lNil) σ (Hp f p R) = some (.rng 0 4 1, Hp f p R) := by simp [dRange, lCons, lNil, dInt]
      unfold sFor
      rw [hd]
      dsimp only
      rw [show itemsOf (.rng 0 4 1) = some (rngL 0 1 4) from this]
    have fst := sIf_f (a := bCons (sRaise (dNeg (dInt 1))) bNil) (b := bNil) (r := some (.next, σ, Hp f p R)) this rfl
    cases hr : firstR f p 0 4 with
    | some q =>
      have e : dFor (gName 30) crBody (rngL 0 1 4) σ (Hp f p R) = some (.exc q, σ', Hp f p R) := by
        have := e; rw [hr] at this; exact this
      exact fDef_exc (σ := σ') rfl (bCons_next fst (bCons_exc (lp.trans e)))
    | none =>
      have e : dFor (gName 30) crBody (rngL 0 1 4) σ (Hp f p R) = some (.next, σ', Hp f p R) := by
        have := e; rw [hr] at this; exact this
      exact fDef_next (σ := σ') rfl (bCons_next fst (bCons_next (lp.trans e) rfl))
end Mine
end
/-! part P24 -/
section
open PySem PySem.W PyProof.Rows
set_option maxRecDepth 100000
set_option maxHeartbeats 1000000
set_option linter.unusedVariables false
set_option linter.unusedSimpArgs false
namespace Mine
noncomputable def three (p : PZ) : Bool := decide ([gz p.B (p.ep + aheadOf p).toNat, gz p.B p.ep.toNat, gz p.B (p.ep - aheadOf p).toNat] = [0, 0, if p.side = 0 then 9 else 1])
noncomputable def stands (f : Fm) (p : PZ) : Bool := f.dbl && decide (0 ≤ p.ep ∧ p.ep < f.N) && decide (p.ep.fdiv 4 = 2) && three p
noncomputable def esT1 : TD := dOr (dNot (dTru (dAttr (dVar 8) 24))) (dOr (dCmp (kLt) (dVar 2) (dInt 0)) (dOr (dCmp (kGe) (dVar 2) (dAttr (dVar 8) 19)) (dFF)))
theorem geo8 {f : Fm} {p : PZ} {R : AH} {σ : AS} {i : Nat} {v : AV} (h8 : lk 8 σ = some (.ref 13)) (hv : lk i (geoD f) = some v) : dAttr (dVar 8) i σ (Hp f p R) = some (v, Hp f p R) := by
  simp only [dAttr, dVar, h8, Hp_geo, hv]
theorem pos20 {f : Fm} {p : PZ} {R : AH} {σ : AS} {i : Nat} {v : AV} (h20 : lk 20 σ = some (.ref 45)) (hv : lk i (posD p) = some v) : dAttr (dVar 20) i σ (Hp f p R) = some (v, Hp f p R) := by
  simp only [dAttr, dVar, h20, Hp_pos, hv]
theorem stands_ok {f : Fm} {p : PZ} (hs : p.side = 0 ∨ p.side = 1) (hB : p.B.length = f.N) (R : AH) : d_ep_stands [.ref 45, .int p.ep] (Hp f p R) = some (.val (.bool (stands f p)), Hp f p R) := by
  let σ₁ : AS := [(20, .ref 45), (2, .int p.ep), (8, .ref 13)]
  have s1 : sAss (dAttr (dVar 20) 8) (gName 8) [(20, .ref 45), (2, .int p.ep)] (Hp f p R) = some (.next, σ₁, Hp f p R) := by
    simp [sAss, dAttr, dVar, lk, Hp_pos, posD, gName, put, σ₁]
  have g24 : dAttr (dVar 8) 24 σ₁ (Hp f p R) = some (.bool f.dbl, Hp f p R) := geo8 rfl rfl
  have g19 : dAttr (dVar 8) 19 σ₁ (Hp f p R) = some (.int f.N, Hp f p R) := geo8 rfl rfl
  have g23 : dAttr (dVar 8) 23 σ₁ (Hp f p R) = some (.int f.F, Hp f p R) := geo8 rfl rfl
  have e2 : dVar 2 σ₁ (Hp f p R) = some (.int p.ep, Hp f p R) := rfl
  by_cases c : f.dbl = true ∧ 0 ≤ p.ep ∧ p.ep < f.N
  · obtain ⟨c0, c1, c2⟩ := c
    have fa : f = .a := by cases f <;> first | rfl | cases c0
    subst fa
    have c2' : p.ep < 20 := c2
    have t1 : esT1 σ₁ (Hp .a p R) = some (false, Hp .a p R) := by
      have n1 : ¬ p.ep < 0 := by omega
      have n2 : ¬ (20 : Int) ≤ p.ep := by omega
      have g24 : dAttr (dVar 8) 24 σ₁ (Hp .a p R) = some (.bool true, Hp .a p R) := g24
      have g19 : dAttr (dVar 8) 19 σ₁ (Hp .a p R) = some (.int 20, Hp .a p R) := g19
      simp [esT1, dOr, dNot, dTru, g24, truth, dCmp, kLt, kGe, e2, g19, dInt, dFF, n1, n2]
    let σ₄ : AS := [(20, .ref 45), (2, .int p.ep), (8, .ref 13), (21, .int 2), (22, .int (aheadOf p))]
    have s3 : sIf (dCmp (kEq) (dAttr (dVar 20) 5) (dK (.int 0))) (bCons (sAss (dBin oSub (dAttr (dVar 8) 25) (dInt 3)) (gName 21)) (bCons (sAss (dAttr (dVar 8) 23) (gName 22)) (bNil))) (bNil) [(20, .ref 45), (2, .int p.ep), (8, .ref 13), (21, .int 2), (22, .int (-4))] (Hp .a p R) = some (.next, σ₄, Hp .a p R) := by
      have h25 : dAttr (dVar 8) 25 [(20, .ref 45), (2, .int p.ep), (8, .ref 13), (21, .int 2), (22, .int (-4))] (Hp .a p R) = some (.int 5, Hp .a p R) := geo8 rfl rfl
      have h5 : dAttr (dVar 20) 5 [(20, .ref 45), (2, .int p.ep), (8, .ref 13), (21, .int 2), (22, .int (-4))] (Hp .a p R) = some (.int p.side, Hp .a p R) := pos20 rfl rfl
      have h23 : dAttr (dVar 8) 23 [(20, .ref 45), (2, .int p.ep), (8, .ref 13), (21, .int 2), (22, .int (-4))] (Hp .a p R) = some (.int 4, Hp .a p R) := geo8 rfl rfl
      by_cases z : p.side = 0
      · simp [sIf, dCmp, kEq, h5, dK, z, bCons, sAss, dBin, h25, dInt, oSub, gName, put, h23, bNil, σ₄, aheadOf]
      · simp [sIf, dCmp, kEq, h5, dK, z, bNil, σ₄, aheadOf]
    have hd : smD 4 = true := by decide
    have f23 : dAttr (dVar 8) 23 σ₄ (Hp .a p R) = some (.int 4, Hp .a p R) := geo8 rfl rfl
    have b10 : dAttr (dVar 20) 10 σ₄ (Hp .a p R) = some (.ref 47, Hp .a p R) := pos20 rfl rfl
    have b5 : dAttr (dVar 20) 5 σ₄ (Hp .a p R) = some (.int p.side, Hp .a p R) := pos20 rfl rfl
    have v2 : dVar 2 σ₄ (Hp .a p R) = some (.int p.ep, Hp .a p R) := rfl
    have v21 : dVar 21 σ₄ (Hp .a p R) = some (.int 2, Hp .a p R) := rfl
    have v22 : dVar 22 σ₄ (Hp .a p R) = some (.int (aheadOf p), Hp .a p R) := rfl
    have pre : ∀ r, bCons (sIf (dCmp (kNe) (dBin oDiv (dVar 2) (dAttr (dVar 8) 23)) (dVar 21)) (bCons (sRet (dBool false)) (bNil)) (bNil))
        (bCons (sIf (dOr (dCmp (kNe) (dItem (dAttr (dVar 20) 10) (dVar 2)) (dK (.int 0))) (dOr (dCmp (kNe) (dItem (dAttr (dVar 20) 10) (dBin oAdd (dVar 2) (dVar 22))) (dK (.int 0))) (dFF))) (bCons (sRet (dBool false)) (bNil)) (bNil))
        (bCons (sRet (dVal (dCmp (kEq) (dItem (dAttr (dVar 20) 10) (dBin oSub (dVar 2) (dVar 22))) (dX (xCall d_make_piece (lCons (dBin oSub (dInt 1) (dAttr (dVar 20) 5)) (lCons (dK (.int 1)) (lNil)))))))) (bNil))) σ₄ (Hp .a p R) = some (.ret (.bool r), σ₄, Hp .a p R) → d_ep_stands [.ref 45, .int p.ep] (Hp .a p R) = some (.val (.bool r), Hp .a p R) := by
      intro r h
      refine fDef_ret rfl (bCons_next s1 (bCons_next (sIf_f t1 rfl) (bCons_next (sAss_eq (v := .int 2) rfl) (bCons_next (sAss_eq (v := .int (-4)) (H' := Hp .a p R) ?_) (bCons_next s3 h)))))
      have : dAttr (dVar 8) 23 (put 21 (.int 2) σ₁) (Hp .a p R) = some (.int 4, Hp .a p R) := geo8 rfl rfl
      simp [dNeg, this]
    apply pre
    have hst : stands .a p = (decide (p.ep.fdiv 4 = 2) && three p) := by
      unfold stands
      rw [decide_eq_true (⟨c1, c2⟩ : 0 ≤ p.ep ∧ p.ep < Fm.a.N)]; rfl
    rw [hst]
    by_cases c3 : p.ep.fdiv 4 = 2
    · have c3e : p.ep / 4 = 2 := by rw [← Int.fdiv_eq_ediv_of_nonneg _ (by decide)]; exact c3
      have hab : aheadOf p = 4 ∨ aheadOf p = -4 := by unfold aheadOf; split <;> simp
      have hB : p.B.length = 20 := hB
      have i1 := item_B (f := .a) (p := p) (R := R) (i := p.ep + aheadOf p) (by omega) (by omega) (by omega)
      have i2 := item_B (f := .a) (p := p) (R := R) (i := p.ep) (by omega) (by omega) (by omega)
      have i3 := item_B (f := .a) (p := p) (R := R) (i := p.ep - aheadOf p) (by omega) (by omega) (by omega)
      have mk := mk_ok (1 - p.side) 1 (by unfold sm; exact decide_eq_true (by omega)) (Hp .a p R)
      rw [decide_eq_true c3, Bool.true_and]
      unfold three
      have u1 : sIf (dCmp (kNe) (dBin oDiv (dVar 2) (dAttr (dVar 8) 23)) (dVar 21)) (bCons (sRet (dBool false)) (bNil)) (bNil) σ₄ (Hp .a p R) = some (.next, σ₄, Hp .a p R) := by
        refine sIf_f (H' := Hp .a p R) ?_ rfl
        simp [dCmp, kNe, dBin, v2, f23, oDiv, hd, v21, c3]
      generalize gz p.B (p.ep + aheadOf p).toNat = x1 at *
      generalize gz p.B p.ep.toNat = x2 at *
      generalize gz p.B (p.ep - aheadOf p).toNat = x3 at *
      have en : (1 - p.side) * 8 + 1 = if p.side = 0 then 9 else 1 := by
        rcases hs with h | h <;> rw [h] <;> rfl
      rw [en] at mk
      refine bCons_next u1 ?_
      by_cases z2 : x2 = 0
      · by_cases z1 : x1 = 0
        · refine bCons_next (sIf_f (H' := Hp .a p R) ?_ rfl) (bCons_ret (sRet_eq ?_))
          · simp [dOr, dCmp, kNe, dItem, b10, v2, v22, dBin, oAdd, i1, i2, dK, z1, z2, dFF]
          · simp [dVal, dCmp, kEq, dItem, b10, v2, v22, dBin, oSub, i3, dX, xCall, lCons, lNil, dInt, b5, dK, mk, z1, z2]
        · refine bCons_ret (sIf_t (H' := Hp .a p R) ?_ (bCons_ret (sRet_eq ?_)))
          · simp [dOr, dCmp, kNe, dItem, b10, v2, v22, dBin, oAdd, i1, i2, dK, z1, z2, dFF]
          · simp [dBool, z1]
      · refine bCons_ret (sIf_t (H' := Hp .a p R) ?_ (bCons_ret (sRet_eq ?_)))
        · simp [dOr, dCmp, kNe, dItem, b10, v2, i2, dK, z2]
        · simp [dBool, z2]
    · rw [decide_eq_false c3]
      refine bCons_ret (sIf_t (H' := Hp .a p R) ?_ (bCons_ret rfl))
      simp [dCmp, kNe, dBin, v2, f23, oDiv, hd, v21, c3]
  · have st : stands f p = false := by
      unfold stands
      by_cases c0 : f.dbl = true
      · have : ¬ (0 ≤ p.ep ∧ p.ep < f.N) := fun h => c ⟨c0, h.1, h.2⟩
        rw [decide_eq_false this]; simp
      · simp [c0]
    rw [st]
    refine fDef_ret (σ := σ₁) rfl (bCons_next s1 (bCons_ret (sIf_t (H' := Hp f p R) ?_ (bCons_ret rfl))))
    by_cases c0 : f.dbl = true
    · by_cases c1 : p.ep < 0
      · simp [dOr, dNot, dTru, g24, truth, c0, dCmp, kLt, e2, dInt, c1]
      · have c2 : (f.N : Int) ≤ p.ep := by
          by_cases h : p.ep < f.N
          · exact absurd ⟨c0, by omega, h⟩ c
          · omega
        simp [dOr, dNot, dTru, g24, truth, c0, dCmp, kLt, kGe, e2, g19, dInt, c1, c2]
    · simp [dOr, dNot, dTru, g24, truth, c0]
end Mine
end
/-! part P25 -/
section
open PySem PySem.W PyProof.Rows
set_option maxRecDepth 100000
set_option maxHeartbeats 1000000
set_option linter.unusedVariables false
set_option linter.unusedSimpArgs false
namespace Mine
noncomputable def besideB (p : PZ) : Bool := ((besideL p).map fun x => gz p.B x.toNat).any (· == if p.side = 0 then 1 else 9)
theorem and_pow_ne (x : Int) (l : List Nat) (c : Int) (hc : ∀ i, bt c i = decide (i ∈ l)) : decide (Builtin.bitAnd c x ≠ 0) = l.any (bt x) := by
  rw [Bool.eq_iff_iff]
  simp only [decide_eq_true_eq, List.any_eq_true]
  constructor
  · intro h
    apply Classical.byContradiction
    intro hn
    apply h
    rw [bt_eq_zero]
    intro i
    rw [bt_and, hc]
    by_cases m : i ∈ l
    · cases hb : bt x i
      · simp
      · exact absurd ⟨i, m, hb⟩ hn
    · rw [decide_eq_false m]; rfl
  · rintro ⟨i, m, hb⟩ e
    have := (bt_eq_zero _).mp e i
    rw [bt_and, hc, decide_eq_true m, hb] at this
    cases this
theorem bt_two (a b i : Nat) (c : Int) (hc : c = Builtin.bitOr (2 ^ a) (2 ^ b)) : bt c i = decide (i ∈ [a, b]) := by
  rw [hc, bt_or, bt_pow, bt_pow]; simp
theorem bt_one (a i : Nat) (c : Int) (hc : c = 2 ^ a) : bt c i = decide (i ∈ [a]) := by
  rw [hc, bt_pow]; simp
theorem att_val {p : PZ} {s e : Int} {c x : Int} {R : AH} (hs : p.side = s) {pr : Nat} (hpr : itemOf (Hp .a p R) (.ref 21) (.int (1 - s)) = some (.ref pr)) (hc : itemOf (Hp .a p R) (.ref pr) (.int e) = some (.int c)) (hx : d_pieces [.ref 45, .int s, .int 1] (Hp .a p R) = some (.val (.int x), Hp .a p R)) :
    d_ep_attacked [.ref 45, .int e] (Hp .a p R) = some (.val (.bool (decide (Builtin.bitAnd c x ≠ 0))), Hp .a p R) := by
  let σ : AS := [(20, .ref 45), (2, .int e)]
  have a8 : dAttr (dAttr (dVar 20) 8) 26 σ (Hp .a p R) = some (.ref 21, Hp .a p R) := by
    simp [dAttr, dVar, lk, σ, Hp_pos, posD, Hp_geo, geoD]
  have a5 : dAttr (dVar 20) 5 σ (Hp .a p R) = some (.int s, Hp .a p R) := by rw [← hs]; exact pos20 rfl rfl
  refine fDef_ret (σ := σ) rfl (bCons_ret (sRet_eq ?_))
  show dVal _ σ (Hp .a p R) = _
  have v2 : dVar 2 σ (Hp .a p R) = some (.int e, Hp .a p R) := rfl
  have v20 : dVar 20 σ (Hp .a p R) = some (.ref 45, Hp .a p R) := rfl
  simp only [dVal, dCmp, dBin, dItem, a8, dInt, a5, oSub, hpr, v2, hc, dX, xCall, lCons, lNil, v20, dK, hx, oAnd, kNe]
  simp
theorem own_bits {p : PZ} (A : Agree .a p) {s : Nat} (hs : s < 2) (b : Nat) (hb : b < 20) : bt (Builtin.bitAnd (gz p.D s) (gz p.K 1)) b = (gz p.B b == ((s * 8 + 1 : Nat) : Int)) := by
  rw [pieces_bits A hs (by decide) (by decide), decide_eq_true (show b < Fm.a.N from hb), Bool.true_and]
theorem attacked_ok {p : PZ} (A : Agree .a p) (hs : p.side = 0 ∨ p.side = 1) (he : 8 ≤ p.ep ∧ p.ep < 12) (R : AH) :
    d_ep_attacked [.ref 45, .int p.ep] (Hp .a p R) = some (.val (.bool (besideB p)), Hp .a p R) := by
  have he : p.ep = 8 ∨ p.ep = 9 ∨ p.ep = 10 ∨ p.ep = 11 := by omega
  have x0 : d_pieces [.ref 45, .int 0, .int 1] (Hp .a p R) = _ := pieces_ok (f := .a) (p := p) A.hK A.hD (s := 0) (k := 1) (by decide) (by decide) R
  have x1 : d_pieces [.ref 45, .int 1, .int 1] (Hp .a p R) = _ := pieces_ok (f := .a) (p := p) A.hK A.hD (s := 1) (k := 1) (by decide) (by decide) R
  have o0 := fun b hb => own_bits A (s := 0) (by decide) b hb
  have o1 := fun b hb => own_bits A (s := 1) (by decide) b hb
  have r0 : itemOf (Hp .a p R) (.ref 21) (.int (1 - 0)) = some (.ref 20) := rfl
  have r1 : itemOf (Hp .a p R) (.ref 21) (.int (1 - 1)) = some (.ref 19) := rfl
  rcases hs with h | h
  · rcases he with e | e | e | e
    · rw [e, att_val h r0 (c := 32) rfl x0, and_pow_ne _ [5] 32 (fun i => bt_one 5 i _ rfl)]
      simp [besideB, besideL, aheadOf, h, e, o0]
    · rw [e, att_val h r0 (c := 80) rfl x0, and_pow_ne _ [4, 6] 80 (fun i => bt_two 4 6 i _ rfl)]
      simp [besideB, besideL, aheadOf, h, e, o0]
    · rw [e, att_val h r0 (c := 160) rfl x0, and_pow_ne _ [5, 7] 160 (fun i => bt_two 5 7 i _ rfl)]
      simp [besideB, besideL, aheadOf, h, e, o0]
    · rw [e, att_val h r0 (c := 64) rfl x0, and_pow_ne _ [6] 64 (fun i => bt_one 6 i _ rfl)]
      simp [besideB, besideL, aheadOf, h, e, o0]
  · rcases he with e | e | e | e
    · rw [e, att_val h r1 (c := 8192) rfl x1, and_pow_ne _ [13] 8192 (fun i => bt_one 13 i _ rfl)]
      simp [besideB, besideL, aheadOf, h, e, o1]
    · rw [e, att_val h r1 (c := 20480) rfl x1, and_pow_ne _ [12, 14] 20480 (fun i => bt_two 12 14 i _ rfl)]
      simp [besideB, besideL, aheadOf, h, e, o1]
    · rw [e, att_val h r1 (c := 40960) rfl x1, and_pow_ne _ [13, 15] 40960 (fun i => bt_two 13 15 i _ rfl)]
      simp [besideB, besideL, aheadOf, h, e, o1]
    · rw [e, att_val h r1 (c := 16384) rfl x1, and_pow_ne _ [14] 16384 (fun i => bt_one 14 i _ rfl)]
      simp [besideB, besideL, aheadOf, h, e, o1]
end Mine
end
/-! part P26 -/
section
open PySem PySem.W PyProof.Rows
set_option maxRecDepth 100000
set_option maxHeartbeats 1000000
set_option linter.unusedVariables false
set_option linter.unusedSimpArgs false
namespace Mine
noncomputable def epQ (f : Fm) (p : PZ) : Option Int := if p.ep ≠ -1 ∧ passed f p = false then some p.ep else none
theorem check_ep_ok {f : Fm} {p : PZ} (A : Agree f p) (hs : p.side = 0 ∨ p.side = 1) (R : AH) : d_check_ep [.ref 45] (Hp f p R) = some (outO (epQ f p), Hp f p R) := by
  let σ : AS := [(20, .ref 45)]
  have a14 : dAttr (dVar 20) 14 σ (Hp f p R) = some (.int p.ep, Hp f p R) := pos20 rfl rfl
  have v20 : dVar 20 σ (Hp f p R) = some (.ref 45, Hp f p R) := rfl
  unfold epQ
  by_cases c : p.ep = -1
  · rw [if_neg (fun h => h.1 c)]
    refine Eq.trans (fDef_ret (σ := σ) (v := .none) rfl (bCons_ret (sIf_t (H' := Hp f p R) ?_ (bCons_ret rfl)))) rfl
    have a14 : dAttr (dVar 20) 14 [(20, AV.ref 45)] (Hp f p R) = some (.int p.ep, Hp f p R) := a14
    simp [dCmp, kEq, a14, dNeg, dInt, c]
  · have t1 : sIf (dCmp (kEq) (dAttr (dVar 20) 14) (dNeg (dInt 1))) (bCons (sRet0) (bNil)) (bNil) σ (Hp f p R) = some (.next, σ, Hp f p R) := by
      refine sIf_f (H' := Hp f p R) ?_ rfl
      simp [dCmp, kEq, a14, dNeg, dInt, c]
    have st := stands_ok (f := f) (p := p) hs A.hB R
    have ps : passed f p = (stands f p && besideB p) := by
      unfold passed passA stands three besideB
      rw [Bool.and_assoc, Bool.and_assoc, Bool.and_assoc, Bool.and_assoc, Bool.and_assoc]
    have rs : sRaise (dAttr (dVar 20) 14) σ (Hp f p R) = some (.exc p.ep, σ, Hp f p R) := by simp only [sRaise, a14]
    cases hst : stands f p with
    | false =>
      rw [hst] at st
      rw [ps, hst, if_pos ⟨c, rfl⟩]
      refine fDef_exc (σ := σ) rfl (bCons_next t1 (bCons_exc (sIf_t (H' := Hp f p R) ?_ (bCons_exc rs))))
      simp [dNot, dTru, dX, xCall, lCons, lNil, v20, a14, st, truth]
    | true =>
      rw [hst] at st
      have fa : f = .a := by
        unfold stands at hst
        cases f
        · rfl
        · simp [Fm.dbl] at hst
        · simp [Fm.dbl] at hst
      subst fa
      have t2 : sIf (dNot (dTru (dX (xCall d_ep_stands (lCons (dVar 20) (lCons (dAttr (dVar 20) 14) (lNil))))))) (bCons (sRaise (dAttr (dVar 20) 14)) (bNil)) (bNil) σ (Hp .a p R) = some (.next, σ, Hp .a p R) := by
        refine sIf_f (H' := Hp .a p R) ?_ rfl
        simp [dNot, dTru, dX, xCall, lCons, lNil, v20, a14, st, truth]
      have he : 8 ≤ p.ep ∧ p.ep < 12 := by
        unfold stands at hst
        simp at hst
        have := hst.1.2
        rw [Int.fdiv_eq_ediv_of_nonneg _ (by decide)] at this
        omega
      have at' := attacked_ok A hs he R
      rw [ps, hst, Bool.true_and]
      cases hb : besideB p with
      | false =>
        rw [hb] at at'
        rw [if_pos ⟨c, rfl⟩]
        refine fDef_exc (σ := σ) rfl (bCons_next t1 (bCons_next t2 (bCons_exc (sIf_t (H' := Hp .a p R) ?_ (bCons_exc rs)))))
        simp [dNot, dTru, dX, xCall, lCons, lNil, v20, a14, at', truth]
      | true =>
        rw [hb] at at'
        rw [if_neg (fun h => by cases h.2)]
        refine fDef_next (σ := σ) rfl (bCons_next t1 (bCons_next t2 (bCons_next (sIf_f (H' := Hp .a p R) ?_ rfl) rfl)))
        simp [dNot, dTru, dX, xCall, lCons, lNil, v20, a14, at', truth]
end Mine
end
/-! part P27 -/
section
open PySem PySem.W PyProof.Rows
set_option maxRecDepth 100000
set_option maxHeartbeats 1000000
set_option linter.unusedVariables false
set_option linter.unusedSimpArgs false
namespace Mine
noncomputable def acc (c : Nat → Bool) : Nat → Int
  | 0 => 0
  | n + 1 => if c n then Builtin.bitOr (acc c n) (2 ^ n) else acc c n
theorem acc_bits (c : Nat → Bool) (n i : Nat) : bt (acc c n) i = (decide (i < n) && c i) := by
  induction n with
  | zero => rw [acc, bt_zero]; simp
  | succ n ih =>
    unfold acc
    by_cases e : i = n
    · subst e
      cases hc : c i with
      | true => rw [if_pos rfl, bt_or, bt_pow, decide_eq_true rfl, ih]; simp
      | false => rw [if_neg (by decide), ih, hc]; simp
    · have d : decide (i < n + 1) = decide (i < n) := by
        by_cases h : i < n
        · rw [decide_eq_true h, decide_eq_true (by omega)]
        · rw [decide_eq_false h, decide_eq_false (by omega)]
      split
      · rw [bt_or, bt_pow, ih, decide_eq_false e, d]; simp
      · rw [ih, d]
noncomputable def kb (p : PZ) (n : Nat) : List Int := (List.range 7).map fun k => acc (isK p k) n
noncomputable def sb (p : PZ) (n : Nat) : List Int := (List.range 2).map fun s => acc (isS p s) n
noncomputable def Rb (p : PZ) (R : AH) (n : Nat) : AH := R ++ [.list [.int 0], .list ((kb p n).map .int), .list ((sb p n).map .int)]
end Mine
end
/-! part P28 -/
section
open PySem PySem.W PyProof.Rows
set_option maxRecDepth 100000
set_option maxHeartbeats 1000000
set_option linter.unusedVariables false
set_option linter.unusedSimpArgs false
namespace Mine
theorem kind_ok (m : Int) (H : AH) : d_kind_of [.int m] H = some (.val (.int (m % 8)), H) := by
  have : Builtin.bitAnd m 7 = m % 8 := bitAnd_m3 m
  simp [d_kind_of, fDef, List.zip, List.zipWith, b_kind_of, bCons, sRet, dBin, dVar, lk, dInt, oAnd, this, outOf]
theorem side_ok (m : Int) (H : AH) : d_side_of [.int m] H = some (.val (.int (m / 8)), H) := by
  have : oShr m 3 = some (m / 8) := oShr_nat m 3
  simp [d_side_of, fDef, List.zip, List.zipWith, b_side_of, bCons, sRet, dBin, dVar, lk, dInt, this, outOf]
theorem known_fin : ∀ n : Fin 15, known (n.1 : Int) = true ↔ ((n.1 : Int) = 0 ∨ (0 < (n.1 : Int) ∧ (n.1 : Int) < 15 ∧ 1 ≤ (n.1 : Int) % 8 ∧ (n.1 : Int) % 8 ≤ 6)) := by decide +kernel
theorem known_iff (m : Int) : known m = true ↔ m = 0 ∨ (0 < m ∧ m < 15 ∧ 1 ≤ m % 8 ∧ m % 8 ≤ 6) := by
  constructor
  · intro h
    obtain ⟨a, b⟩ := known_lt h
    obtain ⟨n, rfl⟩ := Int.eq_ofNat_of_zero_le a
    exact (known_fin ⟨n, by omega⟩).mp h
  · intro h
    rcases h with rfl | h
    · rfl
    · obtain ⟨n, rfl⟩ := Int.eq_ofNat_of_zero_le (Int.le_of_lt h.1)
      exact (known_fin ⟨n, by omega⟩).mpr (.inr h)
theorem kb_len (p : PZ) (n : Nat) : (kb p n).length = 7 := by simp [kb]
theorem sb_len (p : PZ) (n : Nat) : (sb p n).length = 2 := by simp [sb]
theorem kb_get (p : PZ) (n k : Nat) (h : k < 7) : (kb p n)[k]? = some (acc (isK p k) n) := by simp [kb, h]
theorem sb_get (p : PZ) (n k : Nat) (h : k < 2) : (sb p n)[k]? = some (acc (isS p k) n) := by simp [sb, h]
theorem kb_step (p : PZ) (i k : Nat) (hk : k < 7) (h : ∀ j, j < 7 → isK p j i = decide (j = k)) : (kb p i).set k (Builtin.bitOr (acc (isK p k) i) (2 ^ i)) = kb p (i + 1) := by
  apply List.ext_getElem?
  intro j
  by_cases hj : j < 7
  · rw [kb_get p (i + 1) j hj]
    by_cases e : j = k
    · subst e
      rw [List.getElem?_set_self (by rw [kb_len]; exact hk), acc, h j hj, if_pos (by simp)]
    · rw [List.getElem?_set_ne (fun h => e h.symm), kb_get p i j hj, acc, h j hj, if_neg (by simp [e])]
  · rw [List.getElem?_eq_none (by rw [List.length_set, kb_len]; omega), List.getElem?_eq_none (by rw [kb_len]; omega)]
theorem sb_step (p : PZ) (i k : Nat) (hk : k < 2) (h : ∀ j, j < 2 → isS p j i = decide (j = k)) : (sb p i).set k (Builtin.bitOr (acc (isS p k) i) (2 ^ i)) = sb p (i + 1) := by
  apply List.ext_getElem?
  intro j
  by_cases hj : j < 2
  · rw [sb_get p (i + 1) j hj]
    by_cases e : j = k
    · subst e
      rw [List.getElem?_set_self (by rw [sb_len]; exact hk), acc, h j hj, if_pos (by simp)]
    · rw [List.getElem?_set_ne (fun h => e h.symm), sb_get p i j hj, acc, h j hj, if_neg (by simp [e])]
  · rw [List.getElem?_eq_none (by rw [List.length_set, sb_len]; omega), List.getElem?_eq_none (by rw [sb_len]; omega)]
theorem Rb_zero {p : PZ} {R : AH} {i : Nat} (h : gz p.B i = 0) : Rb p R (i + 1) = Rb p R i := by
  have k : kb p (i + 1) = kb p i := by
    apply List.map_congr_left
    intro k _
    rw [acc, if_neg (by simp [isK, h])]
  have s : sb p (i + 1) = sb p i := by
    apply List.map_congr_left
    intro k _
    rw [acc, if_neg (by simp [isS, h])]
  unfold Rb; rw [k, s]
end Mine
end
/-! part P29 -/
section
open PySem PySem.W PyProof.Rows
set_option maxRecDepth 100000
set_option maxHeartbeats 1000000
set_option linter.unusedVariables false
set_option linter.unusedSimpArgs false
namespace Mine
noncomputable def bcBody : SD := (bCons (sAss (dItem (dAttr (dVar 20) 10) (dVar 2)) (gName 7))
  (bCons (sIf (dCmp (kEq) (dVar 7) (dK (.int 0))) (bCons (sCont)
  (bNil)) (bNil))
  (bCons (sIf (dOr (dNot (dChain (kLt) (kLt) (dInt 0) (dVar 7) (dInt 15))) (dOr (dNot (dChain (kLe) (kLe) (dK (.int 1)) (dX (xCall d_kind_of (lCons (dVar 7) (lNil)))) (dK (.int 6)))) (dFF))) (bCons (sRaise (dVar 2))
  (bNil)) (bNil))
  (bCons (sAugI oOr (dVar 11) (dX (xCall d_kind_of (lCons (dVar 7) (lNil)))) (dBin oShl (dInt 1) (dVar 2)))
  (bCons (sAugI oOr (dVar 12) (dX (xCall d_side_of (lCons (dVar 7) (lNil)))) (dBin oShl (dInt 1) (dVar 2)))
  (bNil))))))
structure BcLk (R : AH) (σ : AS) : Prop where
  l20 : lk 20 σ = some (.ref 45)
  l8 : lk 8 σ = some (.ref 13)
  l11 : lk 11 σ = some (.ref (52 + (R.length + 1)))
  l12 : lk 12 σ = some (.ref (52 + (R.length + 2)))
theorem BcLk.put {R : AH} {σ : AS} (h : BcLk R σ) {i : Nat} {v : AV} (n : i ≠ 20 ∧ i ≠ 8 ∧ i ≠ 11 ∧ i ≠ 12) : BcLk R (put i v σ) := by
  obtain ⟨a, b, c, d⟩ := h
  obtain ⟨n1, n2, n3, n4⟩ := n
  constructor <;> rw [lk_put, if_neg (Ne.symm ‹_›)] <;> assumption
theorem R3_1 (R : AH) (a b c : AO) : (R ++ [a, b, c])[R.length + 1]? = some b := by simp
theorem R3_2 (R : AH) (a b c : AO) : (R ++ [a, b, c])[R.length + 2]? = some c := by simp
theorem R3_s1 (R : AH) (a b c d : AO) : (R ++ [a, b, c]).set (R.length + 1) d = R ++ [a, d, c] := by simp
theorem R3_s2 (R : AH) (a b c d : AO) : (R ++ [a, b, c]).set (R.length + 2) d = R ++ [a, b, d] := by simp
theorem sAugI_eq {op : Int → Int → Option Int} {fo fi g : ED} {σ : AS} {H H' : AH} {o i : AV} {x y z : Int} (h1 : fo σ H = some (o, H)) (h2 : fi σ H = some (i, H)) (h3 : itemOf H o i = some (.int x)) (h4 : g σ H = some (.int y, H)) (h5 : op x y = some z) (h6 : setI H o i (.int z) = some H') :
    sAugI op fo fi g σ H = some (.next, σ, H') := by
  simp only [sAugI, h1, h2, h3, h4, h5, h6]
theorem bcBody_ok {f : Fm} {p : PZ} (hB : p.B.length = f.N) {i : Nat} (hi : i < f.N) {R : AH} {σ : AS} (L : BcLk R σ) (l2 : lk 2 σ = some (.int i)) :
    ∃ σ', BcLk R σ' ∧ (if known (gz p.B i) then bcBody σ (Hp f p (Rb p R i)) = some (.next, σ', Hp f p (Rb p R (i + 1))) ∨ bcBody σ (Hp f p (Rb p R i)) = some (.cont, σ', Hp f p (Rb p R (i + 1))) else bcBody σ (Hp f p (Rb p R i)) = some (.exc i, σ', Hp f p (Rb p R i))) := by
  have hN := N_le f
  have it := item65 (p := p) hB hi (Rb p R i)
  generalize hm : gz p.B i = m at it
  have L' : BcLk R (put 7 (.int m) σ) := L.put (by decide)
  have l2' : lk 2 (put 7 (.int m) σ) = some (.int i) := by rw [lk_put, if_neg (by decide)]; exact l2
  have l7 : lk 7 (put 7 (.int m) σ) = some (.int m) := by rw [lk_put, if_pos rfl]
  have s1 : sAss (dItem (dAttr (dVar 20) 10) (dVar 2)) (gName 7) σ (Hp f p (Rb p R i)) = some (.next, put 7 (.int m) σ, Hp f p (Rb p R i)) := by
    refine sAss_eq ?_
    have : dAttr (dVar 20) 10 σ (Hp f p (Rb p R i)) = some (.ref 47, Hp f p (Rb p R i)) := pos20 L.l20 rfl
    simp only [dItem, this, dVar, l2, it]
  generalize put 7 (.int m) σ = σ₁ at L' l2' l7 s1
  refine ⟨σ₁, L', ?_⟩
  by_cases z : m = 0
  · rw [if_pos (by rw [z]; rfl)]
    right
    rw [Rb_zero (by rw [hm]; exact z)]
    refine bCons_next s1 ?_
    have t : dCmp (kEq) (dVar 7) (dK (.int 0)) σ₁ (Hp f p (Rb p R i)) = some (true, Hp f p (Rb p R i)) := by simp [dCmp, kEq, dVar, l7, dK, z]
    simp only [bCons, sIf, t, sCont]
  · have t1 : sIf (dCmp (kEq) (dVar 7) (dK (.int 0))) (bCons (sCont) (bNil)) (bNil) σ₁ (Hp f p (Rb p R i)) = some (.next, σ₁, Hp f p (Rb p R i)) := by
      refine sIf_f (H' := Hp f p (Rb p R i)) ?_ rfl
      simp [dCmp, kEq, dVar, l7, dK, z]
    have kd : dX (xCall d_kind_of (lCons (dVar 7) (lNil))) σ₁ (Hp f p (Rb p R i)) = some (.int (m % 8), Hp f p (Rb p R i)) := by
      simp only [dX, xCall, lCons, lNil, dVar, l7, kind_ok]
    have t2 : dOr (dNot (dChain (kLt) (kLt) (dInt 0) (dVar 7) (dInt 15))) (dOr (dNot (dChain (kLe) (kLe) (dK (.int 1)) (dX (xCall d_kind_of (lCons (dVar 7) (lNil)))) (dK (.int 6)))) (dFF)) σ₁ (Hp f p (Rb p R i)) = some (!known m, Hp f p (Rb p R i)) := by
      have v7 : dVar 7 σ₁ (Hp f p (Rb p R i)) = some (.int m, Hp f p (Rb p R i)) := by simp only [dVar, l7]
      cases hk : known m with
      | true =>
        obtain ⟨a, b, c, d⟩ : 0 < m ∧ m < 15 ∧ 1 ≤ m % 8 ∧ m % 8 ≤ 6 := by
          rcases (known_iff m).mp hk with h | h
          · exact absurd h z
          · exact h
        simp [dOr, dNot, dChain, kLt, kLe, dInt, v7, dK, kd, dFF, a, b, c, d]
      | false =>
        have : ¬ (0 < m ∧ m < 15 ∧ 1 ≤ m % 8 ∧ m % 8 ≤ 6) := fun h => by
          rw [(known_iff m).mpr (.inr h)] at hk; cases hk
        by_cases a : 0 < m
        · by_cases b : m < 15
          · by_cases c : 1 ≤ m % 8
            · have d : ¬ m % 8 ≤ 6 := fun d => this ⟨a, b, c, d⟩
              simp [dOr, dNot, dChain, kLt, kLe, dInt, v7, dK, kd, a, b, c, d]
            · simp [dOr, dNot, dChain, kLt, kLe, dInt, v7, dK, kd, a, b, c]
          · simp [dOr, dNot, dChain, kLt, kLe, dInt, v7, a, b]
        · simp [dOr, dNot, dChain, kLt, kLe, dInt, v7, a]
    cases hk : known m with
    | false =>
      rw [hk] at t2
      rw [if_neg (by decide)]
      refine bCons_next s1 (bCons_next t1 (bCons_exc (sIf_t t2 (bCons_exc ?_))))
      simp only [sRaise, dVar, l2']
    | true =>
      rw [hk] at t2
      rw [if_pos rfl]
      left
      obtain ⟨a, b, c, d⟩ : 0 < m ∧ m < 15 ∧ 1 ≤ m % 8 ∧ m % 8 ≤ 6 := by
        rcases (known_iff m).mp hk with h | h
        · exact absurd h z
        · exact h
      have sh : oShl 1 (i : Int) = some (2 ^ i) := by
        unfold oShl
        rw [if_pos (by unfold smS; exact decide_eq_true (by omega)), Int.toNat_natCast, Int.one_mul]
      have shv : ∀ H, dBin oShl (dInt 1) (dVar 2) σ₁ H = some (.int (2 ^ i), H) := by
        intro H; simp only [dBin, dInt, dVar, l2', sh]
      obtain ⟨k, hk7, ek⟩ : ∃ k : Nat, k < 7 ∧ m % 8 = k := ⟨(m % 8).toNat, by omega, by omega⟩
      obtain ⟨s, hs2, es⟩ : ∃ s : Nat, s < 2 ∧ m / 8 = s := ⟨(m / 8).toNat, by omega, by omega⟩
      have ks : ∀ j, j < 7 → isK p j i = decide (j = k) := by
        intro j _
        unfold isK
        rw [hm, Int.fmod_eq_emod_of_nonneg _ (by decide), ek]
        rw [Bool.eq_iff_iff]
        simp [z]
        omega
      have ss : ∀ j, j < 2 → isS p j i = decide (j = s) := by
        intro j _
        unfold isS
        rw [hm, Int.fdiv_eq_ediv_of_nonneg _ (by decide), es]
        rw [Bool.eq_iff_iff]
        simp [z]
        omega
      let R1 : AH := R ++ [.list [.int 0], .list ((kb p (i + 1)).map .int), .list ((sb p i).map .int)]
      have a1 : sAugI oOr (dVar 11) (dX (xCall d_kind_of (lCons (dVar 7) (lNil)))) (dBin oShl (dInt 1) (dVar 2)) σ₁ (Hp f p (Rb p R i)) = some (.next, σ₁, Hp f p R1) := by
        rw [ek] at kd
        refine sAugI_eq (o := .ref (52 + (R.length + 1))) (i := .int k) (x := acc (isK p k) i) (y := 2 ^ i) (by simp only [dVar, L'.l11]) kd ?_ (shv _) rfl ?_
        · simp only [itemOf, Hp_new, Rb, R3_1]
          rw [idx_nat (by rw [kb_len]; exact hk7) (by rw [kb_len]; decide)]
          have := gz_lt (l := kb p i) (i := k) (by rw [kb_len]; exact hk7)
          rw [kb_get p i k hk7] at this
          rw [← Option.some.inj this]
        · simp only [setI, Hp_new, Rb, R3_1]
          rw [if_pos (by rw [List.length_map, kb_len]; omega), Int.toNat_natCast, Hp_setnew, R3_s1]
          show _ = some (Hp f p (R ++ [.list [.int 0], .list ((kb p (i + 1)).map .int), .list ((sb p i).map .int)]))
          rw [← kb_step p i k hk7 ks, List.map_set]
      have a2 : sAugI oOr (dVar 12) (dX (xCall d_side_of (lCons (dVar 7) (lNil)))) (dBin oShl (dInt 1) (dVar 2)) σ₁ (Hp f p R1) = some (.next, σ₁, Hp f p (Rb p R (i + 1))) := by
        have sd : dX (xCall d_side_of (lCons (dVar 7) (lNil))) σ₁ (Hp f p R1) = some (.int s, Hp f p R1) := by
          simp only [dX, xCall, lCons, lNil, dVar, l7, side_ok, es]
        refine sAugI_eq (o := .ref (52 + (R.length + 2))) (i := .int s) (x := acc (isS p s) i) (y := 2 ^ i) (by simp only [dVar, L'.l12]) sd ?_ (shv _) rfl ?_
        · simp only [itemOf, Hp_new, R1, R3_2]
          rw [idx_nat (by rw [sb_len]; exact hs2) (by rw [sb_len]; decide)]
          have := gz_lt (l := sb p i) (i := s) (by rw [sb_len]; exact hs2)
          rw [sb_get p i s hs2] at this
          rw [← Option.some.inj this]
        · simp only [setI, Hp_new, R1, R3_2]
          rw [if_pos (by rw [List.length_map, sb_len]; omega), Int.toNat_natCast, Hp_setnew, R3_s2, Rb, ← sb_step p i s hs2 ss, List.map_set]
      exact bCons_next s1 (bCons_next t1 (bCons_next (sIf_f t2 rfl) (bCons_next a1 (bCons_next a2 rfl))))
end Mine
end
/-! part P30 -/
section
open PySem PySem.W PyProof.Rows
set_option maxRecDepth 100000
set_option maxHeartbeats 1000000
set_option linter.unusedVariables false
set_option linter.unusedSimpArgs false
namespace Mine
theorem bc_all {f : Fm} {p : PZ} (hB : p.B.length = f.N) (kn : ∀ i, i < f.N → known (gz p.B i) = true) {R : AH} : ∀ n k : Nat, k + n = f.N → ∀ σ, BcLk R σ →
    ∃ σ', BcLk R σ' ∧ dFor (gName 2) bcBody (rngL k 1 n) σ (Hp f p (Rb p R k)) = some (.next, σ', Hp f p (Rb p R f.N)) := by
  intro n
  induction n with
  | zero =>
    intro k hk σ L
    have : k = f.N := by omega
    subst this
    exact ⟨σ, L, rfl⟩
  | succ n ih =>
    intro k hk σ L
    obtain ⟨σ', L', e⟩ := bcBody_ok (f := f) (p := p) hB (i := k) (by omega) (L.put (i := 2) (v := .int k) (by decide)) (by rw [lk_put, if_pos rfl])
    rw [if_pos (kn k (by omega))] at e
    have e1 : (k : Int) + 1 = ((k + 1 : Nat) : Int) := by omega
    obtain ⟨σ'', L'', e'⟩ := ih (k + 1) (by omega) σ' L'
    refine ⟨σ'', L'', ?_⟩
    unfold rngL dFor gName
    dsimp only
    rcases e with e | e
    · rw [e]; dsimp only; rw [e1]; exact e'
    · rw [e]; dsimp only; rw [e1]; exact e'
theorem bc_bad {f : Fm} {p : PZ} (hB : p.B.length = f.N) {b : Nat} (hb : b < f.N) (nk : known (gz p.B b) = false) (kn : ∀ i, i < b → known (gz p.B i) = true) {R : AH} : ∀ n k : Nat, k + n = f.N → k ≤ b → ∀ σ, BcLk R σ →
    ∃ σ', dFor (gName 2) bcBody (rngL k 1 n) σ (Hp f p (Rb p R k)) = some (.exc b, σ', Hp f p (Rb p R b)) := by
  intro n
  induction n with
  | zero => intro k hk hkb σ L; omega
  | succ n ih =>
    intro k hk hkb σ L
    obtain ⟨σ', L', e⟩ := bcBody_ok (f := f) (p := p) hB (i := k) (by omega) (L.put (i := 2) (v := .int k) (by decide)) (by rw [lk_put, if_pos rfl])
    have e1 : (k : Int) + 1 = ((k + 1 : Nat) : Int) := by omega
    by_cases c : k = b
    · subst c
      rw [nk] at e
      simp only [Bool.false_eq_true, if_false] at e
      refine ⟨σ', ?_⟩
      unfold rngL dFor gName
      dsimp only
      rw [e]
    · rw [if_pos (kn k (by omega))] at e
      obtain ⟨σ'', e'⟩ := ih (k + 1) (by omega) (by omega) σ' L'
      refine ⟨σ'', ?_⟩
      unfold rngL dFor gName
      dsimp only
      rcases e with e | e
      · rw [e]; dsimp only; rw [e1]; exact e'
      · rw [e]; dsimp only; rw [e1]; exact e'
end Mine
end
/-! part P31 -/
section
open PySem PySem.W PyProof.Rows
set_option maxRecDepth 100000
set_option maxHeartbeats 1000000
set_option linter.unusedVariables false
set_option linter.unusedSimpArgs false
namespace Mine
/-! the differing bits -/
noncomputable def wr0 (f : Fm) (p : PZ) : Int := Builtin.bitOr (Builtin.bitXor (acc (isS p 0) f.N) (gz p.D 0)) (Builtin.bitXor (acc (isS p 1) f.N) (gz p.D 1))
noncomputable def wr (f : Fm) (p : PZ) : Nat → Int
  | 0 => wr0 f p
  | k + 1 => Builtin.bitOr (wr f p k) (Builtin.bitXor (acc (isK p k) f.N) (gz p.K k))
theorem xor_ff (a b : Bool) : ((a ^^ b) = false) ↔ b = a := by cases a <;> cases b <;> decide
theorem or_ff (a b : Bool) : ((a || b) = false) ↔ a = false ∧ b = false := by cases a <;> cases b <;> decide
theorem wr_bits (f : Fm) (p : PZ) (n i : Nat) : bt (wr f p n) i = false ↔ (∀ s, s < 2 → bt (gz p.D s) i = (decide (i < f.N) && isS p s i)) ∧ (∀ k, k < n → bt (gz p.K k) i = (decide (i < f.N) && isK p k i)) := by
  induction n with
  | zero =>
    rw [wr, wr0, bt_or, bt_xor, bt_xor, or_ff, xor_ff, xor_ff, acc_bits, acc_bits]
    constructor
    · rintro ⟨a, b⟩
      refine ⟨fun s hs => ?_, fun k hk => by omega⟩
      have : s = 0 ∨ s = 1 := by omega
      rcases this with rfl | rfl <;> assumption
    · rintro ⟨a, _⟩
      exact ⟨a 0 (by decide), a 1 (by decide)⟩
  | succ n ih =>
    rw [wr, bt_or, bt_xor, or_ff, xor_ff, acc_bits, ih]
    constructor
    · rintro ⟨⟨a, b⟩, c⟩
      refine ⟨a, fun k hk => ?_⟩
      by_cases e : k = n
      · subst e; exact c
      · exact b k (by omega)
    · rintro ⟨a, b⟩
      exact ⟨⟨a, fun k hk => b k (by omega)⟩, b n (by omega)⟩
theorem gz_mem {l : List Int} {i : Nat} (h : i < l.length) : gz l i ∈ l := List.mem_of_getElem? (gz_lt h)
theorem mem_gz {l : List Int} {b : Int} (h : b ∈ l) : ∃ i, i < l.length ∧ gz l i = b := by
  obtain ⟨i, hi, e⟩ := List.mem_iff_getElem.mp h
  refine ⟨i, hi, ?_⟩
  have := gz_lt hi
  rw [List.getElem?_eq_getElem hi, e] at this
  exact (Option.some.inj this).symm
theorem bitL_eq {l : List Int} {n i : Nat} (hl : l.length = n) (g : Nat → Int) (c : Nat → Bool) (hg : ∀ k, k < n → g k = if c k then 1 else 0) : bitL l i = (List.range n).map g ↔ ∀ k, k < n → bt (gz l k) i = c k := by
  constructor
  · intro h k hk
    have h1 : (bitL l i)[k]? = ((List.range n).map g)[k]? := by rw [h]
    rw [bitL, List.getElem?_map, gz_lt (by omega), List.getElem?_map, List.getElem?_range hk] at h1
    simp only [Option.map_some, Option.some.injEq] at h1
    rw [hg k hk] at h1
    cases a : bt (gz l k) i <;> cases b : c k <;> simp [a, b] at h1 ⊢
  · intro h
    apply List.ext_getElem?
    intro k
    by_cases hk : k < n
    · rw [bitL, List.getElem?_map, gz_lt (by omega), List.getElem?_map, List.getElem?_range hk]
      simp only [Option.map_some, Option.some.injEq]
      rw [hg k hk, h k hk]
    · rw [List.getElem?_eq_none (by simp [bitL]; omega), List.getElem?_eq_none (by simp; omega)]
theorem lies_wr {f : Fm} {p : PZ} (hK : p.K.length = 7) (hD : p.D.length = 2) {i : Nat} (hi : i < f.N) : lies p i = bt (wr f p 7) i := by
  have e1 : bitL p.K i = dueK (gz p.B i) ↔ ∀ k, k < 7 → bt (gz p.K k) i = isK p k i :=
    bitL_eq hK _ (fun k => isK p k i) (fun k hk => by simp [isK])
  have e2' : dueS (gz p.B i) = (List.range 2).map fun (s : Nat) => if gz p.B i ≠ 0 ∧ (gz p.B i).fdiv 8 = s then (1 : Int) else 0 := rfl
  have e2 : bitL p.D i = dueS (gz p.B i) ↔ ∀ s, s < 2 → bt (gz p.D s) i = isS p s i := by
    rw [e2']
    exact bitL_eq hD _ (fun k => isS p k i) (fun k hk => by simp [isS])
  have w := wr_bits f p 7 i
  rw [decide_eq_true hi] at w
  simp only [Bool.true_and] at w
  rw [← e1, ← e2] at w
  cases h : bt (wr f p 7) i with
  | false =>
    obtain ⟨a, b⟩ := w.mp h
    simp [lies, a, b]
  | true =>
    have n : ¬ (bitL p.D i = dueS (gz p.B i) ∧ bitL p.K i = dueK (gz p.B i)) := fun x => by rw [w.mpr x] at h; cases h
    unfold lies
    by_cases a : bitL p.K i = dueK (gz p.B i)
    · rw [decide_eq_false (fun b => n ⟨b, a⟩)]; simp
    · rw [decide_eq_false a]; simp
theorem not_wide (f : Fm) (x : Int) : isWide f x = false ↔ ∀ i, f.N ≤ i → bt x i = false := by
  rw [← bt_range]
  unfold isWide
  rw [or_ff, decide_eq_false_iff_not, decide_eq_false_iff_not]
  constructor
  · rintro ⟨a, b⟩; exact ⟨Int.not_lt.mp a, Int.not_le.mp b⟩
  · rintro ⟨a, b⟩; exact ⟨Int.not_lt.mpr a, Int.not_le.mpr b⟩
theorem wide_wr {f : Fm} {p : PZ} (hK : p.K.length = 7) (hD : p.D.length = 2) : (p.K ++ p.D).filter (isWide f) = [] ↔ isWide f (wr f p 7) = false := by
  rw [List.filter_eq_nil_iff, not_wide]
  constructor
  · intro h i hi
    rw [wr_bits, decide_eq_false (by omega)]
    simp only [Bool.false_and]
    have g : ∀ b, b ∈ p.K ++ p.D → bt b i = false := by
      intro b hb
      have := h b hb
      cases c : isWide f b with
      | true => exact absurd c this
      | false => exact (not_wide f b).mp c i hi
    exact ⟨fun s hs => g _ (List.mem_append_right _ (gz_mem (by omega))), fun k hk => g _ (List.mem_append_left _ (gz_mem (by omega)))⟩
  · intro h b hb c
    have : isWide f b = false := by
      rw [not_wide]
      intro i hi
      have := (wr_bits f p 7 i).mp (h i hi)
      rw [decide_eq_false (by omega)] at this
      simp only [Bool.false_and] at this
      rcases List.mem_append.mp hb with hb | hb
      · obtain ⟨k, hk, rfl⟩ := mem_gz hb
        exact this.2 k (by omega)
      · obtain ⟨s, hs, rfl⟩ := mem_gz hb
        exact this.1 s (by omega)
    rw [this] at c; cases c
noncomputable def blameB (f : Fm) (p : PZ) : Option Int := match (List.range f.N).filter (fun i => !known (gz p.B i)) with
  | a :: _ => some (a : Int)
  | [] => if (p.K ++ p.D).filter (isWide f) ≠ [] then some (-1) else match (List.range f.N).filter (lies p) with | a :: _ => some (a : Int) | [] => none
theorem agree_of {f : Fm} {p : PZ} (hB : p.B.length = f.N) (hK : p.K.length = 7) (hD : p.D.length = 2) (h : blameB f p = none) : Agree f p ∧ ∀ i, i < f.N → known (gz p.B i) = true := by
  unfold blameB at h
  split at h
  · cases h
  · rename_i h1
    split at h
    · cases h
    · rename_i h2
      split at h
      · cases h
      · rename_i h3
        have h2 : (p.K ++ p.D).filter (isWide f) = [] := by
          by_cases c : (p.K ++ p.D).filter (isWide f) = []
          · exact c
          · exact absurd c h2
        have hw := (not_wide _ _).mp ((wide_wr hK hD).mp h2)
        have z : ∀ i, bt (wr f p 7) i = false := by
          intro i
          by_cases c : i < f.N
          · rw [← lies_wr hK hD c]; exact fr_nil.mp h3 i c
          · exact hw i (by omega)
        refine ⟨⟨hB, hK, hD, fun k hk i => ((wr_bits f p 7 i).mp (z i)).2 k hk, fun s hs i => ((wr_bits f p 7 i).mp (z i)).1 s hs⟩, fun i hi => ?_⟩
        have := fr_nil.mp h1 i hi
        cases c : known (gz p.B i) with
        | true => rfl
        | false => rw [c] at this; cases this
/-! the second loop -/
noncomputable def wrBody : SD := (bCons (sAugN oOr 27 (dBin oXor (dItem (dVar 11) (dVar 6)) (dItem (dAttr (dVar 20) 11) (dVar 6)))) (bNil))
theorem wrBody_ok {f : Fm} {p : PZ} (hK : p.K.length = 7) {k : Nat} (hk : k < 7) {R : AH} {σ : AS} (L : BcLk R σ) (l6 : lk 6 σ = some (.int k)) {x : Int} (l27 : lk 27 σ = some (.int x)) :
    wrBody σ (Hp f p (Rb p R f.N)) = some (.next, put 27 (.int (Builtin.bitOr x (Builtin.bitXor (acc (isK p k) f.N) (gz p.K k)))) σ, Hp f p (Rb p R f.N)) := by
  have i1 : itemOf (Hp f p (Rb p R f.N)) (.ref (52 + (R.length + 1))) (.int k) = some (.int (acc (isK p k) f.N)) := by
    simp only [itemOf, Hp_new, Rb, R3_1]
    rw [idx_nat (by rw [kb_len]; exact hk) (by rw [kb_len]; decide)]
    have := gz_lt (l := kb p f.N) (i := k) (by rw [kb_len]; exact hk)
    rw [kb_get p f.N k hk] at this
    rw [← Option.some.inj this]
  have i2 := item_K (f := f) (p := p) (R := Rb p R f.N) (i := k) (by omega) (by omega) (by omega)
  rw [Int.toNat_natCast] at i2
  have a : dAttr (dVar 20) 11 σ (Hp f p (Rb p R f.N)) = some (.ref 49, Hp f p (Rb p R f.N)) := pos20 L.l20 rfl
  unfold wrBody
  refine bCons_next (a := sAugN _ _ _) ?_ rfl
  simp only [sAugN, l27, dBin, dItem, a, dVar, L.l11, l6, i1, i2, oXor, oOr]
theorem wr_loop {f : Fm} {p : PZ} (hK : p.K.length = 7) {R : AH} : ∀ n k : Nat, k + n = 7 → ∀ σ, BcLk R σ → lk 27 σ = some (.int (wr f p k)) →
    ∃ σ', BcLk R σ' ∧ lk 27 σ' = some (.int (wr f p 7)) ∧ dFor (gName 6) wrBody (rngL k 1 n) σ (Hp f p (Rb p R f.N)) = some (.next, σ', Hp f p (Rb p R f.N)) := by
  intro n
  induction n with
  | zero =>
    intro k hk σ L l
    have : k = 7 := by omega
    subst this
    exact ⟨σ, L, l, rfl⟩
  | succ n ih =>
    intro k hk σ L l
    have e := wrBody_ok (f := f) hK (k := k) (by omega) (L.put (i := 6) (v := .int k) (by decide)) (by rw [lk_put, if_pos rfl]) (x := wr f p k) (by rw [lk_put, if_neg (by decide)]; exact l)
    have e1 : (k : Int) + 1 = ((k + 1 : Nat) : Int) := by omega
    obtain ⟨σ', L', l', e'⟩ := ih (k + 1) (by omega) (put 27 (.int (wr f p (k + 1))) (put 6 (.int k) σ)) ((L.put (by decide)).put (by decide)) (by rw [lk_put, if_pos rfl])
    refine ⟨σ', L', l', ?_⟩
    unfold rngL dFor gName
    dsimp only
    rw [e]
    dsimp only
    rw [e1]
    exact e'
end Mine
end
/-! part P32 -/
section
open PySem PySem.W PyProof.Rows
set_option maxRecDepth 100000
set_option maxHeartbeats 1000000
set_option linter.unusedVariables false
set_option linter.unusedSimpArgs false
namespace Mine
noncomputable def bcT3 : SD := (bCons (sIf (dOr (dCmp (kLt) (dVar 27) (dInt 0)) (dOr (dCmp (kGt) (dVar 27) (dAttr (dVar 8) 16)) (dFF))) (bCons (sRaise (dNeg (dInt 1)))
  (bNil)) (bNil))
  (bCons (sIf (dCmp (kNe) (dVar 27) (dInt 0)) (bCons (sRaise (dX (xCall d_lowest (lCons (dVar 27) (lNil)))))
  (bNil)) (bNil))
  (bNil)))
noncomputable def outS (o : Option Int) : Oc := match o with | none => .next | some q => .exc q
noncomputable def blameC (f : Fm) (p : PZ) : Option Int := if (p.K ++ p.D).filter (isWide f) ≠ [] then some (-1) else match (List.range f.N).filter (lies p) with | a :: _ => some (a : Int) | [] => none
theorem bcT3_ok {f : Fm} {p : PZ} (hK : p.K.length = 7) (hD : p.D.length = 2) {σ : AS} {R : AH} (l8 : lk 8 σ = some (.ref 13)) (l27 : lk 27 σ = some (.int (wr f p 7))) (X : AH) :
    bcT3 σ (Hp f p X) = some (outS (blameC f p), σ, Hp f p X) := by
  have hN := N_le f
  have hf : (2 : Int) ^ f.N = f.full + 1 := by cases f <;> decide
  have ww := wide_wr (f := f) (p := p) hK hD
  have t1 : dOr (dCmp (kLt) (dVar 27) (dInt 0)) (dOr (dCmp (kGt) (dVar 27) (dAttr (dVar 8) 16)) (dFF)) σ (Hp f p X) = some (isWide f (wr f p 7), Hp f p X) := by
    unfold isWide
    rw [hf]
    by_cases c1 : wr f p 7 < 0
    · simp [dOr, dCmp, kLt, dVar, l27, dInt, c1]
    · have a : dAttr (dVar 8) 16 σ (Hp f p X) = some (.int f.full, Hp f p X) := geo8 l8 rfl
      have c3 : decide (f.full + 1 ≤ wr f p 7) = decide (f.full < wr f p 7) := by
        by_cases h : f.full < wr f p 7
        · rw [decide_eq_true h, decide_eq_true (by omega)]
        · rw [decide_eq_false h, decide_eq_false (by omega)]
      rw [c3]
      by_cases c2 : f.full < wr f p 7 <;> simp [dOr, dCmp, kLt, kGt, dVar, l27, dInt, a, dFF, c1, c2]
  unfold blameC
  cases hw : isWide f (wr f p 7) with
  | true =>
    rw [hw] at t1
    have : (p.K ++ p.D).filter (isWide f) ≠ [] := fun h => by rw [ww.mp h] at hw; cases hw
    rw [if_pos this]
    exact bCons_exc (sIf_t t1 (bCons_exc rfl))
  | false =>
    rw [hw] at t1
    rw [if_neg (fun h => h (ww.mpr hw))]
    have hi := (not_wide f _).mp hw
    obtain ⟨x0, x1⟩ := small_of_bits hi
    have lf : (List.range f.N).filter (lies p) = (List.range f.N).filter (bt (wr f p 7)) := by
      apply List.filter_congr
      intro i hi
      exact lies_wr hK hD (List.mem_range.mp hi)
    rw [lf]
    refine bCons_next (sIf_f t1 rfl) ?_
    by_cases z : wr f p 7 = 0
    · have : (List.range f.N).filter (bt (wr f p 7)) = [] := fr_nil.mpr (fun i _ => by rw [z, bt_zero])
      rw [this]
      refine bCons_next (sIf_f (H' := Hp f p X) ?_ rfl) rfl
      simp [dCmp, kNe, dVar, l27, dInt, z]
    · obtain ⟨k, hk, bk, lo⟩ := lowest_bits (b := wr f p 7) (by omega) x1 (Hp f p X)
      have kN : k < f.N := by
        by_cases c : k < f.N
        · exact c
        · rw [hi k (by omega)] at bk; cases bk
      obtain ⟨r', e⟩ := fr_head bk lo f.N kN
      rw [e]
      refine bCons_exc (sIf_t (H' := Hp f p X) ?_ (bCons_exc ?_))
      · simp [dCmp, kNe, dVar, l27, dInt, z]
      · simp [sRaise, dX, xCall, lCons, lNil, dVar, l27, hk]
noncomputable def bcT2 : SD := (bCons (sAss (dBin oOr (dBin oXor (dItem (dVar 12) (dK (.int 0))) (dItem (dAttr (dVar 20) 12) (dK (.int 0)))) (dBin oXor (dItem (dVar 12) (dK (.int 1))) (dItem (dAttr (dVar 20) 12) (dK (.int 1))))) (gName 27))
  (bCons (sFor (dRange (lCons (dInt 7) (lNil))) (gName 6) wrBody) bcT3))
theorem bcT2_ok {f : Fm} {p : PZ} (hK : p.K.length = 7) (hD : p.D.length = 2) {σ : AS} {R : AH} (L : BcLk R σ) :
    ∃ σ', bcT2 σ (Hp f p (Rb p R f.N)) = some (outS (blameC f p), σ', Hp f p (Rb p R f.N)) := by
  have j : ∀ s : Nat, s < 2 → itemOf (Hp f p (Rb p R f.N)) (.ref (52 + (R.length + 2))) (.int s) = some (.int (acc (isS p s) f.N)) := by
    intro s hs
    simp only [itemOf, Hp_new, Rb, R3_2]
    rw [idx_nat (by rw [sb_len]; exact hs) (by rw [sb_len]; decide)]
    have := gz_lt (l := sb p f.N) (i := s) (by rw [sb_len]; exact hs)
    rw [sb_get p f.N s hs] at this
    rw [← Option.some.inj this]
  have j0 : itemOf (Hp f p (Rb p R f.N)) (.ref (52 + (R.length + 2))) (.int 0) = some (.int (acc (isS p 0) f.N)) := j 0 (by decide)
  have j1 : itemOf (Hp f p (Rb p R f.N)) (.ref (52 + (R.length + 2))) (.int 1) = some (.int (acc (isS p 1) f.N)) := j 1 (by decide)
  have i0 : itemOf (Hp f p (Rb p R f.N)) (.ref 50) (.int 0) = some (.int (gz p.D 0)) := item_D (by decide) (by omega) (by omega)
  have i1 : itemOf (Hp f p (Rb p R f.N)) (.ref 50) (.int 1) = some (.int (gz p.D 1)) := item_D (by decide) (by omega) (by omega)
  have a : dAttr (dVar 20) 12 σ (Hp f p (Rb p R f.N)) = some (.ref 50, Hp f p (Rb p R f.N)) := pos20 L.l20 rfl
  have s6 : sAss (dBin oOr (dBin oXor (dItem (dVar 12) (dK (.int 0))) (dItem (dAttr (dVar 20) 12) (dK (.int 0)))) (dBin oXor (dItem (dVar 12) (dK (.int 1))) (dItem (dAttr (dVar 20) 12) (dK (.int 1))))) (gName 27) σ (Hp f p (Rb p R f.N)) = some (.next, put 27 (.int (wr f p 0)) σ, Hp f p (Rb p R f.N)) := by
    refine sAss_eq ?_
    simp only [dBin, dItem, a, dVar, L.l12, dK, j0, j1, i0, i1, oXor, oOr]
    rfl
  obtain ⟨σ', L', l', e⟩ := wr_loop (f := f) (p := p) hK (R := R) 7 0 rfl (put 27 (.int (wr f p 0)) σ) (L.put (by decide)) (by rw [lk_put, if_pos rfl])
  refine ⟨σ', bCons_next s6 (bCons_next (σ' := σ') (H' := Hp f p (Rb p R f.N)) ?_ (bcT3_ok (R := R) hK hD L'.l8 l' _))⟩
  have : ∀ σ, dRange (lCons (dInt 7) lNil) σ (Hp f p (Rb p R f.N)) = some (.rng 0 7 1, Hp f p (Rb p R f.N)) := fun σ => by simp [dRange, lCons, lNil, dInt]
  unfold sFor
  rw [this]
  dsimp only
  rw [show itemsOf (.rng 0 7 1) = some (rngL 0 1 7) from items_rng 7 (by decide)]
  exact e
noncomputable def bcT1 : SD := (bCons (sFor (dRange (lCons (dAttr (dVar 8) 19) (lNil))) (gName 2) bcBody) bcT2)
theorem outS_outO {σ : AS} {b : SD} {H H' : AH} {ps : List Nat} {vs : List AV} {o : Option Int} (hl : vs.length = ps.length) (h : b (ps.zip vs) H = some (outS o, σ, H')) : fDef ps b vs H = some (outO o, H') := by
  cases o with
  | none => exact fDef_next hl h
  | some q => exact fDef_exc hl h
theorem sFor_eq {e : ED} {g : GD} {b : SD} {σ : AS} {H H' : AH} {v : AV} {l : List AV} (h : e σ H = some (v, H')) (hl : itemsOf v = some l) : sFor e g b σ H = dFor g b l σ H' := by
  simp only [sFor, h, hl]
theorem sFor_rng {e : ED} {g : GD} {b : SD} {σ : AS} {H H' : AH} {n : Nat} {r : Option (Oc × AS × AH)} (h : e σ H = some (.rng 0 n 1, H')) (hn : n ≤ 1000) (k : dFor g b (rngL 0 1 n) σ H' = r) : sFor e g b σ H = r :=
  (sFor_eq h (items_rng n hn)).trans k
theorem range_E {e : ED} {σ : AS} {H H' : AH} {n : Int} (h : e σ H = some (.int n, H')) : dRange (lCons e lNil) σ H = some (.rng 0 n 1, H') := by
  simp only [dRange, lCons, lNil, h]
theorem bcT1_ok {f : Fm} {p : PZ} (hB : p.B.length = f.N) (hK : p.K.length = 7) (hD : p.D.length = 2) {σ : AS} {R : AH} (L : BcLk R σ) :
    ∃ σ' Y, bcT1 σ (Hp f p (Rb p R 0)) = some (outS (blameB f p), σ', Hp f p (R ++ Y)) := by
  have hN := N_le f
  have fr : ∀ r, dFor (gName 2) bcBody (rngL 0 1 f.N) σ (Hp f p (Rb p R 0)) = r → sFor (dRange (lCons (dAttr (dVar 8) 19) (lNil))) (gName 2) bcBody σ (Hp f p (Rb p R 0)) = r := by
    intro r h
    exact sFor_rng (range_E (geo8 (v := .int f.N) L.l8 rfl)) (by omega) h
  unfold blameB
  cases hf : (List.range f.N).filter (fun i => !known (gz p.B i)) with
  | nil =>
    have kn : ∀ i, i < f.N → known (gz p.B i) = true := by
      intro i hi
      have := fr_nil.mp hf i hi
      cases c : known (gz p.B i) with
      | true => rfl
      | false => rw [c] at this; cases this
    obtain ⟨σ', L', e⟩ := bc_all (f := f) (p := p) hB kn (R := R) f.N 0 (by omega) σ L
    obtain ⟨σ'', e'⟩ := bcT2_ok (f := f) (p := p) hK hD L'
    exact ⟨σ'', _, bCons_next (fr _ e) e'⟩
  | cons a r =>
    have ha : a ∈ (List.range f.N).filter (fun i => !known (gz p.B i)) := by rw [hf]; exact List.mem_cons_self ..
    obtain ⟨ha1, ha2⟩ := List.mem_filter.mp ha
    have ha1 := List.mem_range.mp ha1
    -- the least unknown
    have ex : ∀ n, (∀ i, i < n → known (gz p.B i) = true) ∨ ∃ b, b < n ∧ known (gz p.B b) = false ∧ ∀ i, i < b → known (gz p.B i) = true := by
      intro n
      induction n with
      | zero => exact .inl (fun i h => by omega)
      | succ n ih =>
        rcases ih with ih | ⟨b, h1, h2, h3⟩
        · cases c : known (gz p.B n) with
          | true =>
            left
            intro i hi
            by_cases e : i = n
            · subst e; exact c
            · exact ih i (by omega)
          | false => exact .inr ⟨n, by omega, c, ih⟩
        · exact .inr ⟨b, by omega, h2, h3⟩
    rcases ex f.N with h | ⟨b, h1, h2, h3⟩
    · rw [h a ha1] at ha2; cases ha2
    · obtain ⟨r', e⟩ := fr_head (c := fun i => !known (gz p.B i)) (k := b) (by rw [h2]; rfl) (fun i hi => by rw [h3 i hi]; rfl) f.N h1
      rw [hf] at e
      cases e
      obtain ⟨σ', e'⟩ := bc_bad (f := f) (p := p) hB h1 h2 h3 (R := R) f.N 0 (by omega) (by omega) σ L
      exact ⟨σ', _, bCons_exc (fr _ e')⟩
theorem check_boards_ok {f : Fm} {p : PZ} (nB : p.B.length ≤ 1000) (nK : p.K.length ≤ 1000) (nD : p.D.length ≤ 1000) (R : AH) :
    ∃ Y, d_check_boards [.ref 45] (Hp f p R) = some (outO (if p.B.length = f.N ∧ p.K.length = 7 ∧ p.D.length = 2 then blameB f p else some (-1)), Hp f p (R ++ Y)) := by
  have hN := N_le f
  let σ₁ : AS := [(20, .ref 45), (8, .ref 13)]
  have s1 : sAss (dAttr (dVar 20) 8) (gName 8) [(20, .ref 45)] (Hp f p R) = some (.next, σ₁, Hp f p R) := by
    simp [sAss, dAttr, dVar, lk, Hp_pos, posD, gName, put, σ₁]
  have t1 : dOr (dCmp (kNe) (dLen (dAttr (dVar 20) 10)) (dAttr (dVar 8) 19)) (dOr (dCmp (kNe) (dLen (dAttr (dVar 20) 11)) (dInt 7)) (dOr (dCmp (kNe) (dLen (dAttr (dVar 20) 12)) (dInt 2)) (dFF))) σ₁ (Hp f p R) = some (!decide (p.B.length = f.N ∧ p.K.length = 7 ∧ p.D.length = 2), Hp f p R) := by
    have a1 : dLen (dAttr (dVar 20) 10) σ₁ (Hp f p R) = some (.int p.B.length, Hp f p R) := by
      simp [dLen, dAttr, dVar, σ₁, lk, Hp_pos, posD, Hp_B, nB]
    have a2 : dLen (dAttr (dVar 20) 11) σ₁ (Hp f p R) = some (.int p.K.length, Hp f p R) := by
      simp [dLen, dAttr, dVar, σ₁, lk, Hp_pos, posD, Hp_K, nK]
    have a3 : dLen (dAttr (dVar 20) 12) σ₁ (Hp f p R) = some (.int p.D.length, Hp f p R) := by
      simp [dLen, dAttr, dVar, σ₁, lk, Hp_pos, posD, Hp_D, nD]
    have a4 : dAttr (dVar 8) 19 σ₁ (Hp f p R) = some (.int f.N, Hp f p R) := geo8 rfl rfl
    have b1 : decide ((p.B.length : Int) ≠ (f.N : Int)) = !decide (p.B.length = f.N) := by
      by_cases h : p.B.length = f.N
      · rw [decide_eq_true h, decide_eq_false (by omega)]; rfl
      · rw [decide_eq_false h, decide_eq_true (by omega)]; rfl
    have b2 : decide ((p.K.length : Int) ≠ 7) = !decide (p.K.length = 7) := by
      by_cases h : p.K.length = 7
      · rw [decide_eq_true h, decide_eq_false (by omega)]; rfl
      · rw [decide_eq_false h, decide_eq_true (by omega)]; rfl
    have b3 : decide ((p.D.length : Int) ≠ 2) = !decide (p.D.length = 2) := by
      by_cases h : p.D.length = 2
      · rw [decide_eq_true h, decide_eq_false (by omega)]; rfl
      · rw [decide_eq_false h, decide_eq_true (by omega)]; rfl
    have c1 : dCmp (kNe) (dLen (dAttr (dVar 20) 10)) (dAttr (dVar 8) 19) σ₁ (Hp f p R) = some (!decide (p.B.length = f.N), Hp f p R) := by
      rw [← b1]; simp only [dCmp, a1, a4, kNe]; simp
    have c2 : dCmp (kNe) (dLen (dAttr (dVar 20) 11)) (dInt 7) σ₁ (Hp f p R) = some (!decide (p.K.length = 7), Hp f p R) := by
      rw [← b2]; simp only [dCmp, a2, dInt, kNe]; simp
    have c3 : dCmp (kNe) (dLen (dAttr (dVar 20) 12)) (dInt 2) σ₁ (Hp f p R) = some (!decide (p.D.length = 2), Hp f p R) := by
      rw [← b3]; simp only [dCmp, a3, dInt, kNe]; simp
    unfold dOr
    rw [c1]
    by_cases h1 : p.B.length = f.N <;> by_cases h2 : p.K.length = 7 <;> by_cases h3 : p.D.length = 2 <;> simp [dOr, h1, h2, h3, c2, c3, dFF]
  by_cases c : p.B.length = f.N ∧ p.K.length = 7 ∧ p.D.length = 2
  · rw [if_pos c]
    rw [decide_eq_true c] at t1
    obtain ⟨hB, hK, hD⟩ := c
    let R1 : AH := R ++ [.list [.int 0], .list ((kb p 0).map .int)]
    let σ₂ : AS := [(20, .ref 45), (8, .ref 13), (11, .ref (52 + (R.length + 1)))]
    let σ₃ : AS := [(20, .ref 45), (8, .ref 13), (11, .ref (52 + (R.length + 1))), (12, .ref (52 + (R.length + 2)))]
    have s3 : sAss (dRep (dList (lCons (dInt 0) (lNil))) (dInt 7)) (gName 11) σ₁ (Hp f p R) = some (.next, σ₂, Hp f p R1) := by
      refine sAss_eq (i := 11) (v := .ref (52 + (R.length + 1))) ?_
      have : dList (lCons (dInt 0) (lNil)) σ₁ (Hp f p R) = some (.ref (52 + R.length), Hp f p (R ++ [.list [.int 0]])) := by
        simp [dList, lCons, lNil, dInt, Hp_len, Hp_app]
      simp only [dRep, this, dInt, Hp_new]
      rw [show (R ++ [AO.list [.int 0]])[R.length]? = some (.list [.int 0]) from at_new ..]
      simp only [Hp_len, Hp_app]
      rw [List.length_append, List.append_assoc]
      rfl
    have s4 : sAss (dList (lCons (dInt 0) (lCons (dInt 0) (lNil)))) (gName 12) σ₂ (Hp f p R1) = some (.next, σ₃, Hp f p (Rb p R 0)) := by
      refine sAss_eq (i := 12) (v := .ref (52 + (R.length + 2))) ?_
      simp only [dList, lCons, lNil, dInt, Hp_len, Hp_app, R1, List.append_assoc, List.length_append]
      rfl
    obtain ⟨σ', Y, e⟩ := bcT1_ok (f := f) (p := p) hB hK hD (σ := σ₃) (R := R) ⟨rfl, rfl, rfl, rfl⟩
    exact ⟨Y, outS_outO (b := b_check_boards) (σ := σ') rfl (bCons_next s1 (bCons_next (sIf_f t1 rfl) (bCons_next s3 (bCons_next s4 e))))⟩
  · rw [if_neg c]
    rw [decide_eq_false c] at t1
    refine ⟨[], ?_⟩
    rw [List.append_nil]
    exact fDef_exc (σ := σ₁) rfl (bCons_next s1 (bCons_exc (sIf_t t1 (bCons_exc rfl))))
end Mine
end
/-! part P33 -/
section
open PySem PySem.W PyProof.Rows
set_option maxRecDepth 100000
set_option maxHeartbeats 1000000
set_option linter.unusedVariables false
set_option linter.unusedSimpArgs false
namespace Mine
noncomputable def orE (a b : Option Int) : Option Int := match a with | some q => some q | none => b
theorem blame4_eq (f : Fm) (p : PZ) : blame4 f p = orE (blameB f p) (orE (kings2 f p) (orE (pawns1 f p) (orE (rightsB f p) (epQ f p)))) := by
  have h12 : blame12 f p = orE (rightsB f p) (epQ f p) := by
    unfold blame12 epQ orE; cases rightsB f p <;> rfl
  have h10 : blame10 f p = orE (pawns1 f p) (blame12 f p) := by
    unfold blame10 pawns1 orE; cases (List.range f.N).filter (pawnAt f p) <;> rfl
  have h9 : blame9 f p = orE (kings2 f p) (blame10 f p) := by
    unfold blame9 kings2 orE
    cases kingQ (kingL f p 6) with
    | some q => rfl
    | none => cases kingQ (kingL f p 14) <;> rfl
  have h7 : ∀ x, x = blame9 f p → blame4 f p = orE (blameB f p) x := by
    intro x hx
    subst hx
    unfold blame4 blameB blame6 blame7 orE
    cases (List.range f.N).filter (fun i => !known (gz p.B i)) with
    | cons a r => rfl
    | nil =>
      dsimp only
      by_cases c : (p.K ++ p.D).filter (isWide f) ≠ []
      · rw [if_pos c, if_pos c]
      · rw [if_neg c, if_neg c]
        cases (List.range f.N).filter (lies p) <;> rfl
  exact h7 _ (by rw [h9, h10, h12])
theorem sCall20 {d : FD} {σ : AS} {H H' : AH} {o : Option Int} (l20 : lk 20 σ = some (.ref 45)) (h : d [.ref 45] H = some (outO o, H')) : sExpr (xCall d (lCons (dVar 20) lNil)) σ H = some (outS o, σ, H') := by
  cases o with
  | none => simp only [sExpr, xCall, lCons, lNil, dVar, l20, h, outO, outS]
  | some q => simp only [sExpr, xCall, lCons, lNil, dVar, l20, h, outO, outS]
theorem bCons_orS {a b : SD} {σ : AS} {H : AH} {o o' : Option Int} (h : a σ H = some (outS o, σ, H)) (k : o = none → b σ H = some (outS o', σ, H)) : bCons a b σ H = some (outS (orE o o'), σ, H) := by
  cases o with
  | none => exact bCons_next h (k rfl)
  | some q => exact bCons_exc h
theorem orE_none (a : Option Int) : orE a none = a := by cases a <;> rfl
theorem check_position_ok {f : Fm} {p : PZ} (nB : p.B.length ≤ 1000) (nK : p.K.length ≤ 1000) (nD : p.D.length ≤ 1000) (R : AH) :
    ∃ Y, d_check_position [.ref 45] (Hp f p R) = some (outO (blame f p), Hp f p (R ++ Y)) := by
  let σ : AS := [(20, .ref 45)]
  have l20 : lk 20 σ = some (.ref 45) := rfl
  have a5 : dAttr (dVar 20) 5 σ (Hp f p R) = some (.int p.side, Hp f p R) := pos20 rfl rfl
  have a15 : dAttr (dVar 20) 15 σ (Hp f p R) = some (.int p.half, Hp f p R) := pos20 rfl rfl
  have a16 : dAttr (dVar 20) 16 σ (Hp f p R) = some (.int p.full, Hp f p R) := pos20 rfl rfl
  have t1 : dAnd (dCmp (kNe) (dAttr (dVar 20) 5) (dK (.int 0))) (dAnd (dCmp (kNe) (dAttr (dVar 20) 5) (dK (.int 1))) (dTT)) σ (Hp f p R) = some (!decide (p.side = 0 ∨ p.side = 1), Hp f p R) := by
    by_cases c0 : p.side = 0
    · simp [dAnd, dCmp, kNe, a5, dK, c0]
    · by_cases c1 : p.side = 1 <;> simp [dAnd, dCmp, kNe, a5, dK, c0, c1, dTT]
  have t2 : dOr (dCmp (kLt) (dAttr (dVar 20) 15) (dInt 0)) (dOr (dCmp (kLt) (dAttr (dVar 20) 16) (dInt 1)) (dFF)) σ (Hp f p R) = some (decide (p.half < 0 ∨ p.full < 1), Hp f p R) := by
    by_cases c0 : p.half < 0
    · simp [dOr, dCmp, kLt, a15, dInt, c0]
    · by_cases c1 : p.full < 1 <;> simp [dOr, dCmp, kLt, a15, a16, dInt, c0, c1, dFF]
  have rs : ∀ b, bCons (sRaise (dNeg (dInt 1))) b σ (Hp f p R) = some (.exc (-1), σ, Hp f p R) := fun b => bCons_exc rfl
  unfold blame
  by_cases c1 : p.side = 0 ∨ p.side = 1
  · rw [decide_eq_true c1] at t1
    by_cases c2 : p.half < 0 ∨ p.full < 1
    · rw [decide_eq_true c2] at t2
      have : bad0 f p := .inr (by rcases c2 with h | h; exact .inl h; exact .inr (.inl h))
      rw [if_pos this]
      refine ⟨[], ?_⟩
      rw [List.append_nil]
      exact fDef_exc (σ := σ) rfl (bCons_next (sIf_f t1 rfl) (bCons_exc (sIf_t t2 (rs _))))
    · rw [decide_eq_false c2] at t2
      obtain ⟨Y, e⟩ := check_boards_ok (f := f) nB nK nD R
      refine ⟨Y, ?_⟩
      by_cases c3 : p.B.length = f.N ∧ p.K.length = 7 ∧ p.D.length = 2
      · have : ¬ bad0 f p := by
          rintro (h | h | h | h)
          · exact h c1
          · exact c2 (.inl h)
          · exact c2 (.inr h)
          · exact h c3
        rw [if_pos c3] at e
        rw [if_neg this, blame4_eq]
        refine outS_outO (b := b_check_position) (σ := σ) rfl (bCons_next (sIf_f t1 rfl) (bCons_next (sIf_f t2 rfl) ?_))
        have s := sCall20 l20 e
        cases hb : blameB f p with
        | some q => rw [hb] at s; exact bCons_exc s
        | none =>
          rw [hb] at s
          obtain ⟨A, kn⟩ := agree_of c3.1 c3.2.1 c3.2.2 hb
          refine bCons_next s (Eq.trans ?_ rfl)
          show _ = some (outS (orE (kings2 f p) (orE (pawns1 f p) (orE (rightsB f p) (epQ f p)))), σ, Hp f p (R ++ Y))
          refine bCons_orS (sCall20 l20 (check_kings_ok A _)) fun _ => bCons_orS (sCall20 l20 (check_pawns_ok A kn _)) fun _ => bCons_orS (sCall20 l20 (check_rights_ok A.hB _)) fun _ => ?_
          have := bCons_orS (b := bNil) (o' := none) (sCall20 l20 (check_ep_ok A c1 (R ++ Y))) fun _ => rfl
          rwa [orE_none] at this
      · rw [if_neg c3] at e
        rw [if_pos (.inr (.inr (.inr c3)))]
        exact fDef_exc (σ := σ) rfl (bCons_next (sIf_f t1 rfl) (bCons_next (sIf_f t2 rfl) (bCons_exc (sCall20 (o := some (-1)) l20 e))))
  · rw [decide_eq_false c1] at t1
    rw [if_pos (.inl c1)]
    refine ⟨[], ?_⟩
    rw [List.append_nil]
    exact fDef_exc (σ := σ) rfl (bCons_exc (sIf_t t1 (rs _)))
end Mine
end
/-! part P34 -/
section
open PySem PySem.W PyProof.Rows
set_option maxRecDepth 100000
set_option maxHeartbeats 1000000
set_option linter.unusedVariables false
set_option linter.unusedSimpArgs false
namespace Mine
/-! lots -/
noncomputable def tick (p : PZ) : PZ := { p with gone := p.gone + 1 }
noncomputable def GoneOk (p : PZ) (n : Int) : Prop := p.cells.length ≤ 100 ∧ 0 ≤ p.gone ∧ p.gone ≤ n
theorem GoneOk.tick {p : PZ} {n : Int} (h : GoneOk p n) : GoneOk (tick p) (n + 1) := by
  obtain ⟨a, b, c⟩ := h
  refine ⟨a, ?_, ?_⟩ <;> (show _ ≤ _; simp only [Mine.tick]; omega)
theorem GoneOk.mono {p : PZ} {n m : Int} (h : GoneOk p n) (k : n ≤ m) : GoneOk p m := ⟨h.1, h.2.1, Int.le_trans h.2.2 k⟩
theorem lot_Hp {f : Fm} {p : PZ} (G : GoneOk p 900) {n : Int} (hn : 0 < n) (R : AH) : ∃ r, 0 ≤ r ∧ r < n ∧ d__law_lot [.ref 1, .int n] (Hp f p R) = some (.val (.int r), Hp f (tick p) R) := by
  obtain ⟨c, g0, g1⟩ := G
  obtain ⟨r, a, b, e⟩ := lot_ok (H := Hp f p R) (cells := p.cells) (g := p.gone) (n := n) Hp_0 Hp_1 g0 (by omega) hn c
  exact ⟨r, a, b, by rw [e, Hp_set1]; rfl⟩
theorem lot_E {f : Fm} {p : PZ} (G : GoneOk p 900) {n : Int} (hn : 0 < n) {R : AH} {σ : AS} (l62 : lk 62 σ = some (.ref 1)) {e : ED} (he : e σ (Hp f p R) = some (.int n, Hp f p R)) :
    ∃ r, 0 ≤ r ∧ r < n ∧ dX (xCall d__law_lot (lCons (dVar 62) (lCons e lNil))) σ (Hp f p R) = some (.int r, Hp f (tick p) R) := by
  obtain ⟨r, a, b, h⟩ := lot_Hp (f := f) G hn R
  exact ⟨r, a, b, by simp only [dX, xCall, lCons, lNil, dVar, l62, he, h]⟩
/-! men -/
noncomputable def MenOk (f : Fm) (M : List Int) : Prop := M.length = f.N ∧ ∀ m, m ∈ M → known m = true
theorem MenOk.set {f : Fm} {M : List Int} (h : MenOk f M) (i : Nat) {v : Int} (k : known v = true) : MenOk f (M.set i v) := by
  refine ⟨by rw [List.length_set]; exact h.1, fun m hm => ?_⟩
  rcases List.mem_or_eq_of_mem_set hm with hm | rfl
  · exact h.2 m hm
  · exact k
noncomputable def RM (M : List Int) : AH := [.list [.int 0], .list (M.map .int)]
theorem setI_men {f : Fm} {p : PZ} {M : List Int} (h : MenOk f M) {i v : Int} (h0 : 0 ≤ i) (h1 : i < f.N) : setI (Hp f p (RM M)) (.ref 53) (.int i) (.int v) = some (Hp f p (RM (M.set i.toNat v))) := by
  have hN := N_le f
  have hl := h.1
  have e : (Hp f p (RM M))[53]? = some (.list (M.map .int)) := Hp_new (f := f) (p := p) (R := RM M) 1
  have s : (Hp f p (RM M)).set 53 (.list ((M.set i.toNat v).map .int)) = Hp f p (RM (M.set i.toNat v)) := Hp_setnew (f := f) (p := p) (R := RM M) 1 _
  simp only [setI, e, List.length_map]
  rw [if_pos (by omega), ← List.map_set, s]
noncomputable def mBody : SD := (bCons (sAss (dX (xCall d__law_lot (lCons (dVar 62) (lCons (dVar 19) (lNil))))) (gName 67))
  (bCons (sAss (dItem (dK k_law_known) (dX (xCall d__law_lot (lCons (dVar 62) (lCons (dInt 13) (lNil)))))) (gItem (dVar 65) (dVar 67)))
  (bNil)))
structure MLk (f : Fm) (σ : AS) : Prop where
  l62 : lk 62 σ = some (.ref 1)
  l19 : lk 19 σ = some (.int f.N)
  l65 : lk 65 σ = some (.ref 53)
theorem MLk.put {f : Fm} {σ : AS} (h : MLk f σ) {i : Nat} {v : AV} (n : i ≠ 62 ∧ i ≠ 19 ∧ i ≠ 65) : MLk f (put i v σ) := by
  obtain ⟨a, b, c⟩ := h
  obtain ⟨n1, n2, n3⟩ := n
  constructor <;> rw [lk_put, if_neg (Ne.symm ‹_›)] <;> assumption
theorem known_item (H : AH) {r : Int} (h0 : 0 ≤ r) (h1 : r < 13) : ∃ v, itemOf H k_law_known (.int r) = some (.int v) ∧ known v = true := by
  obtain ⟨n, rfl⟩ := Int.eq_ofNat_of_zero_le h0
  have h : n < 13 := by omega
  clear h0 h1
  rcases n with _ | _ | _ | _ | _ | _ | _ | _ | _ | _ | _ | _ | _ | n
  iterate 13 exact ⟨_, rfl, rfl⟩
  exact absurd h (by omega)
theorem N_pos (f : Fm) : 0 < f.N := by cases f <;> decide
theorem mBody_ok {f : Fm} {p : PZ} {n : Int} (G : GoneOk p n) (hn : n ≤ 800) {M : List Int} (hM : MenOk f M) {σ : AS} (L : MLk f σ) :
    ∃ σ' p' M', MLk f σ' ∧ GoneOk p' (n + 2) ∧ p' = { p with gone := p'.gone } ∧ MenOk f M' ∧ mBody σ (Hp f p (RM M)) = some (.next, σ', Hp f p' (RM M')) := by
  have hN := N_pos f
  obtain ⟨r, r0, r1, e1⟩ := lot_E (f := f) (G.mono (by omega)) (n := f.N) (by omega) (R := RM M) L.l62 (e := dVar 19) (by simp only [dVar, L.l19])
  have s1 := sAss_eq (i := 67) e1
  have L' : MLk f (put 67 (.int r) σ) := L.put (by decide)
  have l67 : lk 67 (put 67 (.int r) σ) = some (.int r) := by rw [lk_put, if_pos rfl]
  generalize put 67 (.int r) σ = σ₁ at s1 L' l67
  obtain ⟨q, q0, q1, e2⟩ := lot_E (f := f) (p := tick p) (G.tick.mono (by omega)) (n := 13) (by decide) (R := RM M) L'.l62 (e := dInt 13) rfl
  obtain ⟨v, iv, kv⟩ := known_item (Hp f (tick (tick p)) (RM M)) q0 q1
  refine ⟨σ₁, tick (tick p), M.set r.toNat v, L', (G.tick.tick).mono (by omega), rfl, hM.set _ kv, ?_⟩
  refine bCons_next s1 (bCons_next (a := sAss _ _) (σ' := σ₁) (H' := Hp f (tick (tick p)) (RM (M.set r.toNat v))) ?_ rfl)
  simp only [sAss, dItem, dK, e2, iv, gItem, dVar, L'.l65, l67, setI_men hM r0 r1]
theorem m_loop {f : Fm} : ∀ (l : List AV) {p : PZ} {n : Int} (G : GoneOk p n) (hn : n + 2 * l.length ≤ 800) {M : List Int} (hM : MenOk f M) {σ : AS} (L : MLk f σ),
    ∃ σ' p' M', MLk f σ' ∧ GoneOk p' (n + 2 * l.length) ∧ p' = { p with gone := p'.gone } ∧ MenOk f M' ∧ dFor (gName 66) mBody l σ (Hp f p (RM M)) = some (.next, σ', Hp f p' (RM M')) := by
  intro l
  induction l with
  | nil => intro p n G hn M hM σ L; exact ⟨σ, p, M, L, by simpa using G, rfl, hM, rfl⟩
  | cons v r ih =>
    intro p n G hn M hM σ L
    rw [List.length_cons] at hn
    obtain ⟨σ₁, p₁, M₁, L₁, G₁, q₁, hM₁, e₁⟩ := mBody_ok (f := f) G (by omega) hM (L.put (i := 66) (v := v) (by decide))
    obtain ⟨σ₂, p₂, M₂, L₂, G₂, q₂, hM₂, e₂⟩ := ih G₁ (by omega) hM₁ L₁
    refine ⟨σ₂, p₂, M₂, L₂, G₂.mono (by rw [List.length_cons]; omega), ?_, hM₂, ?_⟩
    · rw [q₂, q₁]
    · unfold dFor gName
      dsimp only
      rw [e₁]
      exact e₂
noncomputable def men1 (f : Fm) : List Int := match f with
  | .a => [0, 0, 6, 0, 0, 0, 0, 0, 0, 0, 0, 0, 0, 0, 0, 0, 0, 0, 14, 0]
  | .b => [0, 0, 0, 6, 0, 0, 0, 0, 0, 0, 0, 0, 0, 0, 0, 0, 0, 14, 0, 0, 0]
  | .c => [0, 0, 0, 6, 0, 0, 0, 0, 0, 0, 0, 0, 0, 0, 0, 14, 0, 0]
noncomputable def men2 (f : Fm) : List Int := match f with
  | .a => [4, 0, 6, 4, 0, 0, 0, 0, 0, 0, 0, 0, 0, 0, 0, 0, 12, 0, 14, 12]
  | .b => [4, 0, 0, 6, 0, 0, 4, 0, 0, 0, 0, 0, 0, 0, 12, 0, 0, 14, 0, 0, 12]
  | .c => [4, 0, 0, 6, 0, 4, 0, 0, 0, 0, 0, 0, 12, 0, 0, 14, 0, 12]
theorem men1_ok (f : Fm) : MenOk f (men1 f) := by cases f <;> exact ⟨by decide, by decide⟩
theorem men2_ok (f : Fm) : MenOk f (men2 f) := by cases f <;> exact ⟨by decide, by decide⟩
noncomputable def mS0 (f : Fm) (who : Int) : AS := [(62, .ref 1), (23, .int f.F), (25, .int f.Rk), (64, .int who)]
noncomputable def mS1 (f : Fm) (who : Int) : AS := [(62, .ref 1), (23, .int f.F), (25, .int f.Rk), (64, .int who), (19, .int f.N), (65, .ref 53)]
noncomputable def mS2 (f : Fm) (who : Int) (x : AV) : AS := [(62, .ref 1), (23, .int f.F), (25, .int f.Rk), (64, .int who), (19, .int f.N), (65, .ref 53), (59, x)]
noncomputable def mA : SD := bCons (sAss (dBin oMul (dVar 23) (dVar 25)) (gName 19))
  (bCons (sAss (dRep (dList (lCons (dInt 0) (lNil))) (dVar 19)) (gName 65))
  (bCons (sAss (dTup (lCons (dInt 6) (lCons (dInt 14) (lNil)))) (gTup (gsCons (gItem (dVar 65) (dBin oDiv (dVar 23) (dInt 2))) (gsCons (gItem (dVar 65) (dBin oAdd (dBin oSub (dVar 19) (dVar 23)) (dBin oDiv (dVar 23) (dInt 2)))) (gsNil))))) bNil))
theorem mA_ok (f : Fm) (p : PZ) (who : Int) : mA (mS0 f who) (Hp f p []) = some (.next, mS1 f who, Hp f p (RM (men1 f))) := by
  cases f <;> rfl
noncomputable def mC : SD := (bCons (sFor (dTup (lCons (dInt 0) (lCons (dBin oSub (dVar 23) (dInt 1)) (lNil)))) (gName 59) (bCons (sAss (dTup (lCons (dInt 4) (lCons (dInt 12) (lNil)))) (gTup (gsCons (gItem (dVar 65) (dVar 59)) (gsCons (gItem (dVar 65) (dBin oAdd (dBin oSub (dVar 19) (dVar 23)) (dVar 59))) (gsNil)))))
  (bNil)))
  (bNil))
theorem mC_ok (f : Fm) (p : PZ) (who : Int) : mC (mS1 f who) (Hp f p (RM (men1 f))) = some (.next, mS2 f who (.int (f.F - 1)), Hp f p (RM (men2 f))) := by
  cases f <;> rfl
end Mine
end
/-! part P35 -/
section
open PySem PySem.W PyProof.Rows
set_option maxRecDepth 100000
set_option maxHeartbeats 1000000
set_option linter.unusedVariables false
set_option linter.unusedSimpArgs false
namespace Mine
theorem bCons_inv {a b : SD} {σ σ' : AS} {H H' : AH} (h : bCons a b σ H = some (.next, σ', H')) : ∃ σ₁ H₁, a σ H = some (.next, σ₁, H₁) ∧ b σ₁ H₁ = some (.next, σ', H') := by
  unfold bCons at h
  split at h
  · exact ⟨_, _, ‹_›, h⟩
  · rename_i hne
    exact absurd h (hne _ _)
theorem bCons_splice2 {a b r : SD} {σ σ' : AS} {H H' : AH} {x : Option (Oc × AS × AH)} (h : bCons a (bCons b bNil) σ H = some (.next, σ', H')) (k : r σ' H' = x) : bCons a (bCons b r) σ H = x := by
  obtain ⟨σ₁, H₁, e₁, h⟩ := bCons_inv h
  obtain ⟨σ₂, H₂, e₂, h⟩ := bCons_inv h
  cases h
  exact bCons_next e₁ (bCons_next e₂ k)
theorem bCons_splice3 {a b c r : SD} {σ σ' : AS} {H H' : AH} {x : Option (Oc × AS × AH)} (h : bCons a (bCons b (bCons c bNil)) σ H = some (.next, σ', H')) (k : r σ' H' = x) : bCons a (bCons b (bCons c r)) σ H = x := by
  obtain ⟨σ₁, H₁, e₁, h⟩ := bCons_inv h
  exact bCons_next e₁ (bCons_splice2 h k)
noncomputable def mD : SD := (sIf (dCmp (kEq) (dVar 23) (dInt 4)) (bCons (sAss (dIf (dCmp (kEq) (dVar 64) (dInt 1)) (dInt 12) (dInt 4)) (gName 40))
  (bCons (sAss (dIf (dCmp (kEq) (dVar 64) (dInt 1)) (dTup (lCons (dInt 1) (lCons (dInt 9) (lNil)))) (dTup (lCons (dInt 9) (lCons (dInt 1) (lNil))))) (gTup (gsCons (gItem (dVar 65) (dVar 40)) (gsCons (gItem (dVar 65) (dBin oAdd (dVar 40) (dInt 1))) (gsNil)))))
  (bNil))) (bNil))
/-- the pawns on 4 by 5 -/
theorem mD_ok {f : Fm} {p : PZ} {who : Int} (hw : who = 0 ∨ who = 1) {M : List Int} (hM : MenOk f M) {σ : AS} (L : MLk f σ) (l23 : lk 23 σ = some (.int f.F)) (l64 : lk 64 σ = some (.int who)) :
    ∃ σ' M', MLk f σ' ∧ MenOk f M' ∧ mD σ (Hp f p (RM M)) = some (.next, σ', Hp f p (RM M')) := by
  by_cases c : f.F = 4
  · have fa : f = .a := by cases f <;> first | rfl | (exact absurd c (by decide))
    subst fa
    have t : dCmp (kEq) (dVar 23) (dInt 4) σ (Hp .a p (RM M)) = some (true, Hp .a p (RM M)) := by simp [dCmp, kEq, dVar, l23, dInt, c]
    have key : ∀ r a b : Int, 0 ≤ r → r < 19 → known a = true → known b = true → dIf (dCmp (kEq) (dVar 64) (dInt 1)) (dInt 12) (dInt 4) σ (Hp .a p (RM M)) = some (.int r, Hp .a p (RM M)) → (∀ σ', lk 64 σ' = some (.int who) → dIf (dCmp (kEq) (dVar 64) (dInt 1)) (dTup (lCons (dInt 1) (lCons (dInt 9) (lNil)))) (dTup (lCons (dInt 9) (lCons (dInt 1) (lNil)))) σ' (Hp .a p (RM M)) = some (.tup [.int a, .int b], Hp .a p (RM M))) →
        ∃ σ' M', MLk .a σ' ∧ MenOk .a M' ∧ mD σ (Hp .a p (RM M)) = some (.next, σ', Hp .a p (RM M')) := by
      intro r a b r0 r1 ka kb e1 e2
      have L' : MLk .a (put 40 (.int r) σ) := L.put (by decide)
      have l40 : lk 40 (put 40 (.int r) σ) = some (.int r) := by rw [lk_put, if_pos rfl]
      have l64' : lk 64 (put 40 (.int r) σ) = some (.int who) := by rw [lk_put, if_neg (by decide)]; exact l64
      have s1 := sAss_eq (i := 40) e1
      generalize put 40 (.int r) σ = σ₁ at L' l40 l64' s1
      have M1 := hM.set r.toNat ka
      refine ⟨σ₁, (M.set r.toNat a).set (r + 1).toNat b, L', M1.set _ kb, ?_⟩
      refine sIf_t t (bCons_next s1 (bCons_next (a := sAss _ _) (σ' := σ₁) (H' := Hp .a p (RM ((M.set r.toNat a).set (r + 1).toNat b))) ?_ rfl))
      have n20 : (Fm.a).N = 20 := rfl
      have q1 := setI_men (p := p) hM (v := a) r0 (by omega)
      have q2 := setI_men (p := p) M1 (i := r + 1) (v := b) (by omega) (by omega)
      simp only [sAss, e2 σ₁ l64', gTup, gsCons, gsNil, gItem, dVar, L'.l65, l40, q1, dBin, dInt, oAdd, q2]
    rcases hw with rfl | rfl
    · exact key 4 9 1 (by decide) (by decide) rfl rfl (by simp [dIf, dCmp, kEq, dVar, l64, dInt]) (fun σ' h => by simp [dIf, dCmp, kEq, dVar, h, dInt, dTup, lCons, lNil])
    · exact key 12 1 9 (by decide) (by decide) rfl rfl (by simp [dIf, dCmp, kEq, dVar, l64, dInt]) (fun σ' h => by simp [dIf, dCmp, kEq, dVar, h, dInt, dTup, lCons, lNil])
  · refine ⟨σ, M, L, hM, sIf_f (H' := Hp f p (RM M)) ?_ rfl⟩
    simp [dCmp, kEq, dVar, l23, dInt, c]
theorem rngL_len (a : Int) (n : Nat) : (rngL a 1 n).length = n := by rw [rngL_map]; simp
noncomputable def mE : SD := (bCons mD
  (bCons (sFor (dRange (lCons (dX (xCall d__law_lot (lCons (dVar 62) (lCons (dInt 5) (lNil))))) (lNil))) (gName 66) mBody)
  (bCons (sRet (dVar 65))
  (bNil))))
theorem mE_ok {f : Fm} {p : PZ} {n : Int} (G : GoneOk p n) (hn : n ≤ 100) {who : Int} (hw : who = 0 ∨ who = 1) {M : List Int} (hM : MenOk f M) {σ : AS} (L : MLk f σ) (l23 : lk 23 σ = some (.int f.F)) (l64 : lk 64 σ = some (.int who)) :
    ∃ σ' p' M', GoneOk p' (n + 9) ∧ p' = { p with gone := p'.gone } ∧ MenOk f M' ∧ mE σ (Hp f p (RM M)) = some (.ret (.ref 53), σ', Hp f p' (RM M')) := by
  obtain ⟨σ₁, M₁, L₁, hM₁, e₁⟩ := mD_ok (f := f) (p := p) hw hM L l23 l64
  obtain ⟨r, r0, r1, e₂⟩ := lot_E (f := f) (G.mono (by omega)) (n := 5) (by decide) (R := RM M₁) L₁.l62 (e := dInt 5) rfl
  obtain ⟨m, rfl⟩ : ∃ m : Nat, r = m := ⟨r.toNat, by omega⟩
  obtain ⟨σ₃, p₃, M₃, L₃, G₃, q₃, hM₃, e₃⟩ := m_loop (f := f) (rngL 0 1 m) (p := tick p) G.tick (by rw [rngL_len]; omega) hM₁ L₁
  rw [rngL_len] at G₃
  refine ⟨σ₃, p₃, M₃, G₃.mono (by omega), by rw [q₃]; rfl, hM₃, ?_⟩
  refine bCons_next e₁ (bCons_next (sFor_rng (range_E e₂) (by omega) e₃) (bCons_ret (sRet_eq ?_)))
  simp only [dVar, L₃.l65]
theorem men_ok {f : Fm} {p : PZ} {n : Int} (G : GoneOk p n) (hn : n ≤ 50) {who : Int} (hw : who = 0 ∨ who = 1) :
    ∃ p' M, GoneOk p' (n + 10) ∧ p' = { p with gone := p'.gone } ∧ MenOk f M ∧ d__law_men [.ref 1, .int f.F, .int f.Rk, .int who] (Hp f p []) = some (.val (.ref 53), Hp f p' (RM M)) := by
  obtain ⟨r, r0, r1, e⟩ := lot_E (f := f) (G.mono (by omega)) (n := 2) (by decide) (R := RM (men1 f)) (σ := mS1 f who) rfl (e := dInt 2) rfl
  by_cases c : r = 0
  · have t : dCmp (kEq) (dX (xCall d__law_lot (lCons (dVar 62) (lCons (dInt 2) (lNil))))) (dInt 0) (mS1 f who) (Hp f p (RM (men1 f))) = some (true, Hp f (tick p) (RM (men1 f))) := by
      simp [dCmp, kEq, e, dInt, c]
    obtain ⟨σ', p', M', G', q', hM', e'⟩ := mE_ok (f := f) (p := tick p) G.tick (by omega) hw (men2_ok f) (σ := mS2 f who (.int (f.F - 1))) ⟨rfl, rfl, rfl⟩ rfl rfl
    refine ⟨p', M', G'.mono (by omega), by rw [q']; rfl, hM', ?_⟩
    exact fDef_ret (b := b__law_men) (σ := σ') rfl (bCons_splice3 (mA_ok f p who) (bCons_next (sIf_t t (mC_ok f (tick p) who)) e'))
  · have t : dCmp (kEq) (dX (xCall d__law_lot (lCons (dVar 62) (lCons (dInt 2) (lNil))))) (dInt 0) (mS1 f who) (Hp f p (RM (men1 f))) = some (false, Hp f (tick p) (RM (men1 f))) := by
      simp [dCmp, kEq, e, dInt, c]
    obtain ⟨σ', p', M', G', q', hM', e'⟩ := mE_ok (f := f) (p := tick p) G.tick (by omega) hw (men1_ok f) (σ := mS1 f who) ⟨rfl, rfl, rfl⟩ rfl rfl
    refine ⟨p', M', G'.mono (by omega), by rw [q']; rfl, hM', ?_⟩
    exact fDef_ret (b := b__law_men) (σ := σ') rfl (bCons_splice3 (mA_ok f p who) (bCons_next (sIf_f t rfl) e'))
end Mine
end
/-! part P36 -/
section
open PySem PySem.W PyProof.Rows
set_option maxRecDepth 100000
set_option maxHeartbeats 1000000
set_option linter.unusedVariables false
set_option linter.unusedSimpArgs false
namespace Mine
/-! the shape of a position after the placing and after k bends -/
noncomputable def Shp (f : Fm) (k : Nat) (p : PZ) : Prop := (f.N ≤ p.B.length ∧ p.B.length ≤ f.N + k) ∧ (7 ≤ p.K.length ∧ p.K.length ≤ 7 + k) ∧ (2 ≤ p.D.length ∧ p.D.length ≤ 2 + k)
theorem Shp.setB {f : Fm} {k : Nat} {p : PZ} (h : Shp f k p) (i : Nat) (v : Int) : Shp f k { p with B := p.B.set i v } := by
  unfold Shp; simp only [List.length_set]; exact h
theorem Shp.setK {f : Fm} {k : Nat} {p : PZ} (h : Shp f k p) (i : Nat) (v : Int) : Shp f k { p with K := p.K.set i v } := by
  unfold Shp; simp only [List.length_set]; exact h
theorem Shp.setD {f : Fm} {k : Nat} {p : PZ} (h : Shp f k p) (i : Nat) (v : Int) : Shp f k { p with D := p.D.set i v } := by
  unfold Shp; simp only [List.length_set]; exact h
theorem setI_B {f : Fm} {p : PZ} {R : AH} {i v : Int} (h0 : 0 ≤ i) (h1 : i < p.B.length) (hl : p.B.length ≤ 1000) : setI (Hp f p R) (.ref 47) (.int i) (.int v) = some (Hp f { p with B := p.B.set i.toNat v } R) := by
  simp only [setI, Hp_B, List.length_map]
  rw [if_pos ⟨h0, h1, hl⟩, ← List.map_set, Hp_setB]
theorem setI_K {f : Fm} {p : PZ} {R : AH} {i v : Int} (h0 : 0 ≤ i) (h1 : i < p.K.length) (hl : p.K.length ≤ 1000) : setI (Hp f p R) (.ref 49) (.int i) (.int v) = some (Hp f { p with K := p.K.set i.toNat v } R) := by
  simp only [setI, Hp_K, List.length_map]
  rw [if_pos ⟨h0, h1, hl⟩, ← List.map_set, Hp_setK]
theorem setI_D {f : Fm} {p : PZ} {R : AH} {i v : Int} (h0 : 0 ≤ i) (h1 : i < p.D.length) (hl : p.D.length ≤ 1000) : setI (Hp f p R) (.ref 50) (.int i) (.int v) = some (Hp f { p with D := p.D.set i.toNat v } R) := by
  simp only [setI, Hp_D, List.length_map]
  rw [if_pos ⟨h0, h1, hl⟩, ← List.map_set, Hp_setD]
theorem item_men {f : Fm} {p : PZ} {M : List Int} (h : MenOk f M) {i : Nat} (hi : i < f.N) : itemOf (Hp f p (RM M)) (.ref 53) (.int i) = some (.int (gz M i)) := by
  have hN := N_le f
  have hl := h.1
  have e : (Hp f p (RM M))[53]? = some (.list (M.map .int)) := Hp_new (f := f) (p := p) (R := RM M) 1
  simp only [itemOf, e]
  exact idx_nat (by omega) (by omega)
structure LwLk (f : Fm) (who : Int) (σ : AS) : Prop where
  l62 : lk 62 σ = some (.ref 1)
  l20 : lk 20 σ = some (.ref 45)
  l23 : lk 23 σ = some (.int f.F)
  l25 : lk 25 σ = some (.int f.Rk)
  l24 : lk 24 σ = some (.bool f.dbl)
  l72 : lk 72 σ = some (.bool f.wng)
  l19 : lk 19 σ = some (.int f.N)
  l65 : lk 65 σ = some (.ref 53)
  l64 : lk 64 σ = some (.int who)
theorem LwLk.put {f : Fm} {who : Int} {σ : AS} (h : LwLk f who σ) {i : Nat} {v : AV} (n : i ≠ 62 ∧ i ≠ 20 ∧ i ≠ 23 ∧ i ≠ 25 ∧ i ≠ 24 ∧ i ≠ 72 ∧ i ≠ 19 ∧ i ≠ 65 ∧ i ≠ 64) : LwLk f who (put i v σ) := by
  obtain ⟨a, b, c, d, e, g, k, l, m⟩ := h
  obtain ⟨n1, n2, n3, n4, n5, n6, n7, n8, n9⟩ := n
  constructor <;> rw [lk_put, if_neg (Ne.symm ‹_›)] <;> assumption
noncomputable def plBody : SD := (bCons (sIf (dCmp (kNe) (dItem (dVar 65) (dVar 67)) (dInt 0)) (bCons (sAss (dItem (dVar 65) (dVar 67)) (gItem (dAttr (dVar 20) 10) (dVar 67)))
  (bCons (sAugI oAdd (dAttr (dVar 20) 11) (dBin oMod (dItem (dVar 65) (dVar 67)) (dInt 8)) (dBin oShl (dInt 1) (dVar 67)))
  (bCons (sAugI oAdd (dAttr (dVar 20) 12) (dBin oDiv (dItem (dVar 65) (dVar 67)) (dInt 8)) (dBin oShl (dInt 1) (dVar 67)))
  (bNil)))) (bNil))
  (bNil))
theorem gz_known {f : Fm} {M : List Int} (h : MenOk f M) {i : Nat} (hi : i < f.N) : known (gz M i) = true := h.2 _ (gz_mem (by rw [h.1]; exact hi))
theorem plBody_ok {f : Fm} {p : PZ} {M : List Int} (hM : MenOk f M) (S : Shp f 0 p) {who : Int} {σ : AS} (L : LwLk f who σ) {i : Nat} (hi : i < f.N) (l67 : lk 67 σ = some (.int i)) :
    ∃ p', Shp f 0 p' ∧ p'.cells = p.cells ∧ p'.gone = p.gone ∧ plBody σ (Hp f p (RM M)) = some (.next, σ, Hp f p' (RM M)) := by
  have hN := N_le f
  have im : ∀ q, itemOf (Hp f q (RM M)) (.ref 53) (.int i) = some (.int (gz M i)) := fun q => item_men hM hi
  have kn := gz_known hM hi
  generalize gz M i = m at im kn
  have it : ∀ q, dItem (dVar 65) (dVar 67) σ (Hp f q (RM M)) = some (.int m, Hp f q (RM M)) := fun q => by
    simp only [dItem, dVar, L.l65, l67, im]
  by_cases z : m = 0
  · refine ⟨p, S, rfl, rfl, bCons_next (sIf_f (H' := Hp f p (RM M)) ?_ rfl) rfl⟩
    simp [dCmp, kNe, it, dInt, z]
  · have t : dCmp (kNe) (dItem (dVar 65) (dVar 67)) (dInt 0) σ (Hp f p (RM M)) = some (true, Hp f p (RM M)) := by simp [dCmp, kNe, it, dInt, z]
    obtain ⟨S1, S2, S3⟩ := id S
    have kl := known_lt kn
    have ki := (known_iff m).mp kn
    have m8 : 0 ≤ m.fmod 8 ∧ m.fmod 8 < 7 := by
      clear kl im it t S1 S2 S3 hN hi l67
      rw [Int.fmod_eq_emod_of_nonneg _ (by decide)]; omega
    have d8 : 0 ≤ m.fdiv 8 ∧ m.fdiv 8 < 2 := by
      clear ki im it t S1 S2 S3 hN hi l67
      rw [Int.fdiv_eq_ediv_of_nonneg _ (by decide)]; omega
    have sh : ∀ H, dBin oShl (dInt 1) (dVar 67) σ H = some (.int (2 ^ i), H) := by
      have : oShl 1 (i : Int) = some (2 ^ i) := by
        unfold oShl
        rw [if_pos (by unfold smS; exact decide_eq_true (by omega)), Int.toNat_natCast, Int.one_mul]
      intro H; simp only [dBin, dInt, dVar, l67, this]
    let p1 : PZ := { p with B := p.B.set i m }
    have s1 : sAss (dItem (dVar 65) (dVar 67)) (gItem (dAttr (dVar 20) 10) (dVar 67)) σ (Hp f p (RM M)) = some (.next, σ, Hp f p1 (RM M)) := by
      have a : dAttr (dVar 20) 10 σ (Hp f p (RM M)) = some (.ref 47, Hp f p (RM M)) := pos20 L.l20 rfl
      have q := setI_B (f := f) (p := p) (R := RM M) (i := i) (v := m) (by omega) (by omega) (by omega)
      rw [Int.toNat_natCast] at q
      simp only [sAss, it, gItem, a, dVar, l67, q]
      rfl
    have Sh1 : Shp f 0 p1 := S.setB i m
    let p2 : PZ := { p1 with K := p1.K.set (m.fmod 8).toNat (gz p1.K (m.fmod 8).toNat + 2 ^ i) }
    have s2 : sAugI oAdd (dAttr (dVar 20) 11) (dBin oMod (dItem (dVar 65) (dVar 67)) (dInt 8)) (dBin oShl (dInt 1) (dVar 67)) σ (Hp f p1 (RM M)) = some (.next, σ, Hp f p2 (RM M)) := by
      have a : dAttr (dVar 20) 11 σ (Hp f p1 (RM M)) = some (.ref 49, Hp f p1 (RM M)) := pos20 L.l20 rfl
      have b : dBin oMod (dItem (dVar 65) (dVar 67)) (dInt 8) σ (Hp f p1 (RM M)) = some (.int (m.fmod 8), Hp f p1 (RM M)) := by
        simp [dBin, it, dInt, oMod]
      have kl : (p1.K.length : Int) = 7 := by show (p.K.length : Int) = 7; omega
      exact sAugI_eq a b (item_K m8.1 (by omega) (by omega)) (sh _) rfl (setI_K m8.1 (by omega) (by omega))
    have Sh2 : Shp f 0 p2 := Sh1.setK _ _
    let p3 : PZ := { p2 with D := p2.D.set (m.fdiv 8).toNat (gz p2.D (m.fdiv 8).toNat + 2 ^ i) }
    have s3 : sAugI oAdd (dAttr (dVar 20) 12) (dBin oDiv (dItem (dVar 65) (dVar 67)) (dInt 8)) (dBin oShl (dInt 1) (dVar 67)) σ (Hp f p2 (RM M)) = some (.next, σ, Hp f p3 (RM M)) := by
      have a : dAttr (dVar 20) 12 σ (Hp f p2 (RM M)) = some (.ref 50, Hp f p2 (RM M)) := pos20 L.l20 rfl
      have b : dBin oDiv (dItem (dVar 65) (dVar 67)) (dInt 8) σ (Hp f p2 (RM M)) = some (.int (m.fdiv 8), Hp f p2 (RM M)) := by
        simp [dBin, it, dInt, oDiv, smD8]
      have kl : (p2.D.length : Int) = 2 := by show (p.D.length : Int) = 2; omega
      exact sAugI_eq a b (item_D d8.1 (by omega) (by omega)) (sh _) rfl (setI_D d8.1 (by omega) (by omega))
    exact ⟨p3, Sh2.setD _ _, rfl, rfl, bCons_next (sIf_t t (bCons_next s1 (bCons_next s2 (bCons_next s3 rfl)))) rfl⟩
theorem pl_loop {f : Fm} {M : List Int} (hM : MenOk f M) {who : Int} : ∀ n k : Nat, k + n = f.N → ∀ {p : PZ} (S : Shp f 0 p) {σ : AS} (L : LwLk f who σ),
    ∃ σ' p', LwLk f who σ' ∧ Shp f 0 p' ∧ p'.cells = p.cells ∧ p'.gone = p.gone ∧ dFor (gName 67) plBody (rngL k 1 n) σ (Hp f p (RM M)) = some (.next, σ', Hp f p' (RM M)) := by
  intro n
  induction n with
  | zero => intro k hk p S σ L; exact ⟨σ, p, L, S, rfl, rfl, rfl⟩
  | succ n ih =>
    intro k hk p S σ L
    obtain ⟨p₁, S₁, c₁, g₁, e₁⟩ := plBody_ok (f := f) hM S (L.put (i := 67) (v := .int k) (by decide)) (i := k) (by omega) (by rw [lk_put, if_pos rfl])
    have e1 : (k : Int) + 1 = ((k + 1 : Nat) : Int) := by omega
    obtain ⟨σ₂, p₂, L₂, S₂, c₂, g₂, e₂⟩ := ih (k + 1) (by omega) S₁ (L.put (i := 67) (v := .int k) (by decide))
    refine ⟨σ₂, p₂, L₂, S₂, c₂.trans c₁, g₂.trans g₁, ?_⟩
    unfold rngL dFor gName
    dsimp only
    rw [e₁]
    dsimp only
    rw [e1]
    exact e₂
theorem setA_pos {f : Fm} {p : PZ} {R : AH} {i : Nat} {v : AV} (q : PZ) (e : q.cells = p.cells ∧ q.gone = p.gone ∧ q.B = p.B ∧ q.K = p.K ∧ q.D = p.D) (h : put i v (posD p) = posD q) : setA (Hp f p R) (.ref 45) i v = some (Hp f q R) := by
  simp only [setA, Hp_pos, h]
  rw [if_pos (show (posD p).length ≤ 100 by simp [posD]), Hp_setP q e]
end Mine
end
/-! part P37 -/
section
open PySem PySem.W PyProof.Rows
set_option maxRecDepth 100000
set_option maxHeartbeats 1000000
set_option linter.unusedVariables false
set_option linter.unusedSimpArgs false
namespace Mine
/-! bends -/
structure BtLk (f : Fm) (σ : AS) : Prop where
  l62 : lk 62 σ = some (.ref 1)
  l20 : lk 20 σ = some (.ref 45)
  l19 : lk 19 σ = some (.int f.N)
theorem BtLk.put {f : Fm} {σ : AS} (h : BtLk f σ) {i : Nat} {v : AV} (n : i ≠ 62 ∧ i ≠ 20 ∧ i ≠ 19) : BtLk f (put i v σ) := by
  obtain ⟨a, b, c⟩ := h
  obtain ⟨n1, n2, n3⟩ := n
  constructor <;> rw [lk_put, if_neg (Ne.symm ‹_›)] <;> assumption
/-- a step of a bend: from p it ends normally at some p' of the wider shape -/
noncomputable def Bd (b : SD) (f : Fm) (k : Nat) (n : Int) (p : PZ) (σ : AS) (R : AH) : Prop := ∃ p', Shp f k p' ∧ GoneOk p' n ∧ b σ (Hp f p R) = some (.next, σ, Hp f p' R)
theorem Shp.mono {f : Fm} {k : Nat} {p : PZ} (h : Shp f k p) : Shp f (k + 1) p := by
  obtain ⟨⟨a, b⟩, ⟨c, d⟩, e, g⟩ := h
  exact ⟨⟨a, by omega⟩, ⟨c, by omega⟩, e, by omega⟩
theorem Shp.tick {f : Fm} {k : Nat} {p : PZ} (h : Shp f k p) : Shp f k (tick p) := h
theorem Bd_one {b : SD} {f : Fm} {k : Nat} {n : Int} {p : PZ} {σ : AS} {R : AH} (h : Bd b f k n p σ R) : Bd (bCons b bNil) f k n p σ R := by
  obtain ⟨p', a, b, e⟩ := h
  exact ⟨p', a, b, bCons_next e rfl⟩
/-- one test of the chain -/
theorem Bd_if {a b : SD} {f : Fm} {k : Nat} {n : Int} {p : PZ} {σ : AS} {R : AH} {w c : Int} (l60 : lk 60 σ = some (.int w)) (ha : Bd a f k n p σ R) (hb : Bd b f k n p σ R) : Bd (sIf (dCmp (kEq) (dVar 60) (dInt c)) (bCons a bNil) (bCons b bNil)) f k n p σ R := by
  by_cases h : w = c
  · have t : dCmp (kEq) (dVar 60) (dInt c) σ (Hp f p R) = some (true, Hp f p R) := by simp [dCmp, kEq, dVar, l60, dInt, h]
    obtain ⟨p', x, y, e⟩ := Bd_one ha
    exact ⟨p', x, y, sIf_t t e⟩
  · have t : dCmp (kEq) (dVar 60) (dInt c) σ (Hp f p R) = some (false, Hp f p R) := by simp [dCmp, kEq, dVar, l60, dInt, h]
    obtain ⟨p', x, y, e⟩ := Bd_one hb
    exact ⟨p', x, y, sIf_f t e⟩
section
variable {f : Fm} {k : Nat} {n : Int} {p : PZ} {σ : AS} {R : AH}
/-- an attribute of the position set to an int -/
theorem Bd_at (S : Shp f k p) (G : GoneOk p n) (hn : n ≤ 500) (L : BtLk f σ) {e : ED} {i : Nat} (he : ∃ v q, e σ (Hp f p R) = some (.int v, Hp f (tick p) R) ∧ q.cells = (tick p).cells ∧ q.gone = (tick p).gone ∧ q.B = p.B ∧ q.K = p.K ∧ q.D = p.D ∧ put i (.int v) (posD (tick p)) = posD q) :
    Bd (sAss e (gAttr (dVar 20) i)) f (k + 1) (n + 2) p σ R := by
  obtain ⟨v, q, e1, h1, h2, h3, h4, h5, h6⟩ := he
  have s := setA_pos (f := f) (R := R) q ⟨h1, h2, h3, h4, h5⟩ h6
  refine ⟨q, ?_, ?_, ?_⟩
  · unfold Shp; rw [h3, h4, h5]; exact S.mono
  · unfold GoneOk; rw [h1, h2]; exact (G.tick).mono (by omega)
  · simp only [sAss, e1, gAttr, dVar, L.l20, s]
theorem tup_item (l : List Int) (H : AH) {r : Int} (h0 : 0 ≤ r) (h1 : r < l.length) (hl : l.length ≤ 1000) : itemOf H (.tup (l.map .int)) (.int r) = some (.int (gz l r.toNat)) := by
  simp only [itemOf]; exact idx_int h0 h1 hl
theorem bend0 (S : Shp f k p) (G : GoneOk p n) (hn : n ≤ 500) (L : BtLk f σ) : Bd (sAss (dItem (dTup (lCons (dInt 2) (lCons (dNeg (dInt 1)) (lNil)))) (dX (xCall d__law_lot (lCons (dVar 62) (lCons (dInt 2) (lNil)))))) (gAttr (dVar 20) 5)) f (k + 1) (n + 2) p σ R := by
  obtain ⟨r, r0, r1, e⟩ := lot_E (f := f) (G.mono (by omega)) (n := 2) (by decide) (R := R) L.l62 (e := dInt 2) rfl
  have t : itemOf (Hp f (tick p) R) (.tup [.int 2, .int (-1)]) (.int r) = some (.int (gz [2, -1] r.toNat)) := tup_item [2, -1] _ r0 r1 (by decide)
  refine Bd_at S G hn L ⟨gz [2, -1] r.toNat, { tick p with side := gz [2, -1] r.toNat }, ?_, rfl, rfl, rfl, rfl, rfl, rfl⟩
  have tp : ∀ H, dTup (lCons (dInt 2) (lCons (dNeg (dInt 1)) (lNil))) σ H = some (.tup [.int 2, .int (-1)], H) := fun H => by simp [dTup, lCons, lNil, dInt, dNeg]
  simp only [dItem, tp, e, t]
theorem bend1 (S : Shp f k p) (G : GoneOk p n) (hn : n ≤ 500) (L : BtLk f σ) : Bd (sAss (dBin oSub (dNeg (dInt 1)) (dX (xCall d__law_lot (lCons (dVar 62) (lCons (dInt 3) (lNil)))))) (gAttr (dVar 20) 15)) f (k + 1) (n + 2) p σ R := by
  obtain ⟨r, r0, r1, e⟩ := lot_E (f := f) (G.mono (by omega)) (n := 3) (by decide) (R := R) L.l62 (e := dInt 3) rfl
  refine Bd_at S G hn L ⟨-1 - r, { tick p with half := -1 - r }, ?_, rfl, rfl, rfl, rfl, rfl, rfl⟩
  simp only [dBin, dNeg, dInt, e, oSub]
theorem bend2 (S : Shp f k p) (G : GoneOk p n) (hn : n ≤ 500) (L : BtLk f σ) : Bd (sAss (dBin oSub (dInt 0) (dX (xCall d__law_lot (lCons (dVar 62) (lCons (dInt 3) (lNil)))))) (gAttr (dVar 20) 16)) f (k + 1) (n + 2) p σ R := by
  obtain ⟨r, r0, r1, e⟩ := lot_E (f := f) (G.mono (by omega)) (n := 3) (by decide) (R := R) L.l62 (e := dInt 3) rfl
  refine Bd_at S G hn L ⟨0 - r, { tick p with full := 0 - r }, ?_, rfl, rfl, rfl, rfl, rfl, rfl⟩
  simp only [dBin, dInt, e, oSub]
theorem bend8 (S : Shp f k p) (G : GoneOk p n) (hn : n ≤ 500) (L : BtLk f σ) : Bd (sAss (dBin oSub (dX (xCall d__law_lot (lCons (dVar 62) (lCons (dInt 18) (lNil))))) (dInt 1)) (gAttr (dVar 20) 13)) f (k + 1) (n + 2) p σ R := by
  obtain ⟨r, r0, r1, e⟩ := lot_E (f := f) (G.mono (by omega)) (n := 18) (by decide) (R := R) L.l62 (e := dInt 18) rfl
  refine Bd_at S G hn L ⟨r - 1, { tick p with rights := r - 1 }, ?_, rfl, rfl, rfl, rfl, rfl, rfl⟩
  simp only [dBin, dInt, e, oSub]
theorem bend9 (S : Shp f k p) (G : GoneOk p n) (hn : n ≤ 500) (L : BtLk f σ) : Bd (sAss (dBin oSub (dX (xCall d__law_lot (lCons (dVar 62) (lCons (dBin oAdd (dVar 19) (dInt 4)) (lNil))))) (dInt 2)) (gAttr (dVar 20) 14)) f (k + 1) (n + 2) p σ R := by
  obtain ⟨r, r0, r1, e⟩ := lot_E (f := f) (G.mono (by omega)) (n := f.N + 4) (by omega) (R := R) L.l62 (e := dBin oAdd (dVar 19) (dInt 4)) (by simp only [dBin, dVar, L.l19, dInt, oAdd])
  refine Bd_at S G hn L ⟨r - 2, { tick p with ep := r - 2 }, ?_, rfl, rfl, rfl, rfl, rfl, rfl⟩
  simp only [dBin] at e ⊢
  simp only [e, dInt, oSub]
theorem bend3 (S : Shp f k p) (hk : k ≤ 500) (G : GoneOk p n) (hn : n ≤ 500) (L : BtLk f σ) : Bd (sExpr (xE (dApp (dItem (dTup (lCons (dAttr (dVar 20) 10) (lCons (dAttr (dVar 20) 11) (lCons (dAttr (dVar 20) 12) (lNil))))) (dX (xCall d__law_lot (lCons (dVar 62) (lCons (dInt 3) (lNil)))))) (dInt 0)))) f (k + 1) (n + 2) p σ R := by
  have hN := N_le f
  obtain ⟨r, r0, r1, e⟩ := lot_E (f := f) (G.mono (by omega)) (n := 3) (by decide) (R := R) L.l62 (e := dInt 3) rfl
  have tp : dTup (lCons (dAttr (dVar 20) 10) (lCons (dAttr (dVar 20) 11) (lCons (dAttr (dVar 20) 12) (lNil)))) σ (Hp f p R) = some (.tup [.ref 47, .ref 49, .ref 50], Hp f p R) := by
    have a : dAttr (dVar 20) 10 σ (Hp f p R) = some (.ref 47, Hp f p R) := pos20 L.l20 rfl
    have b : dAttr (dVar 20) 11 σ (Hp f p R) = some (.ref 49, Hp f p R) := pos20 L.l20 rfl
    have c : dAttr (dVar 20) 12 σ (Hp f p R) = some (.ref 50, Hp f p R) := pos20 L.l20 rfl
    simp [dTup, lCons, lNil, a, b, c]
  obtain ⟨⟨b1, b2⟩, ⟨k1, k2⟩, d1, d2⟩ := id S
  have G' : GoneOk (tick p) (n + 2) := (G.tick).mono (by omega)
  have c : r = 0 ∨ r = 1 ∨ r = 2 := by omega
  rcases c with rfl | rfl | rfl
  · refine ⟨{ tick p with B := p.B ++ [0] }, ⟨⟨?_, ?_⟩, ⟨k1, by show p.K.length ≤ _; omega⟩, d1, by show p.D.length ≤ _; omega⟩, G', ?_⟩
    · show f.N ≤ (p.B ++ [0]).length; simp; omega
    · show (p.B ++ [0]).length ≤ _; simp; omega
    · have i : itemOf (Hp f (tick p) R) (.tup [.ref 47, .ref 49, .ref 50]) (.int 0) = some (.ref 47) := rfl
      have s := Hp_setB (f := f) (p := tick p) (R := R) (p.B ++ [0])
      rw [List.map_append] at s
      simp only [sExpr, xE, dApp, dItem, tp, e, i, Hp_B, dInt, List.length_map]
      rw [if_pos (show (tick p).B.length ≤ 1000 by show p.B.length ≤ 1000; omega)]
      dsimp only
      rw [show (Hp f (tick p) R).set 47 (.list ((tick p).B.map .int ++ [.int 0])) = _ from s]
  · refine ⟨{ tick p with K := p.K ++ [0] }, ⟨⟨b1, by show p.B.length ≤ _; omega⟩, ⟨?_, ?_⟩, d1, by show p.D.length ≤ _; omega⟩, G', ?_⟩
    · show 7 ≤ (p.K ++ [0]).length; simp; omega
    · show (p.K ++ [0]).length ≤ _; simp; omega
    · have i : itemOf (Hp f (tick p) R) (.tup [.ref 47, .ref 49, .ref 50]) (.int 1) = some (.ref 49) := rfl
      have s := Hp_setK (f := f) (p := tick p) (R := R) (p.K ++ [0])
      rw [List.map_append] at s
      simp only [sExpr, xE, dApp, dItem, tp, e, i, Hp_K, dInt, List.length_map]
      rw [if_pos (show (tick p).K.length ≤ 1000 by show p.K.length ≤ 1000; omega)]
      dsimp only
      rw [show (Hp f (tick p) R).set 49 (.list ((tick p).K.map .int ++ [.int 0])) = _ from s]
  · refine ⟨{ tick p with D := p.D ++ [0] }, ⟨⟨b1, by show p.B.length ≤ _; omega⟩, ⟨k1, by show p.K.length ≤ _; omega⟩, ?_, ?_⟩, G', ?_⟩
    · show 2 ≤ (p.D ++ [0]).length; simp; omega
    · show (p.D ++ [0]).length ≤ _; simp; omega
    · have i : itemOf (Hp f (tick p) R) (.tup [.ref 47, .ref 49, .ref 50]) (.int 2) = some (.ref 50) := rfl
      have s := Hp_setD (f := f) (p := tick p) (R := R) (p.D ++ [0])
      rw [List.map_append] at s
      simp only [sExpr, xE, dApp, dItem, tp, e, i, Hp_D, dInt, List.length_map]
      rw [if_pos (show (tick p).D.length ≤ 1000 by show p.D.length ≤ 1000; omega)]
      dsimp only
      rw [show (Hp f (tick p) R).set 50 (.list ((tick p).D.map .int ++ [.int 0])) = _ from s]
theorem bend4 (S : Shp f k p) (hk : k ≤ 500) (G : GoneOk p n) (hn : n ≤ 500) (L : BtLk f σ) : Bd (sAss (dItem (dTup (lCons (dInt 7) (lCons (dInt 8) (lCons (dInt 15) (lCons (dNeg (dInt 1)) (lCons (dInt 16) (lNil))))))) (dX (xCall d__law_lot (lCons (dVar 62) (lCons (dInt 5) (lNil)))))) (gItem (dAttr (dVar 20) 10) (dX (xCall d__law_lot (lCons (dVar 62) (lCons (dVar 19) (lNil))))))) f (k + 1) (n + 2) p σ R := by
  have hN := N_le f
  have hp := N_pos f
  obtain ⟨r, r0, r1, e⟩ := lot_E (f := f) (G.mono (by omega)) (n := 5) (by decide) (R := R) L.l62 (e := dInt 5) rfl
  obtain ⟨q, q0, q1, e2⟩ := lot_E (f := f) (p := tick p) (G.tick.mono (by omega)) (n := f.N) (by omega) (R := R) L.l62 (e := dVar 19) (by simp only [dVar, L.l19])
  have t : itemOf (Hp f (tick p) R) (.tup [.int 7, .int 8, .int 15, .int (-1), .int 16]) (.int r) = some (.int (gz [7, 8, 15, -1, 16] r.toNat)) := tup_item [7, 8, 15, -1, 16] _ r0 r1 (by decide)
  have tp : ∀ H, dTup (lCons (dInt 7) (lCons (dInt 8) (lCons (dInt 15) (lCons (dNeg (dInt 1)) (lCons (dInt 16) (lNil)))))) σ H = some (.tup [.int 7, .int 8, .int 15, .int (-1), .int 16], H) := fun H => by simp [dTup, lCons, lNil, dInt, dNeg]
  obtain ⟨⟨b1, b2⟩, _⟩ := id S
  have a : dAttr (dVar 20) 10 σ (Hp f (tick p) R) = some (.ref 47, Hp f (tick p) R) := pos20 L.l20 rfl
  have bl : (tick (tick p)).B.length = p.B.length := rfl
  have s := setI_B (f := f) (p := tick (tick p)) (R := R) (i := q) (v := gz [7, 8, 15, -1, 16] r.toNat) q0 (by omega) (by omega)
  refine ⟨{ tick (tick p) with B := p.B.set q.toNat (gz [7, 8, 15, -1, 16] r.toNat) }, ((S.tick.tick).setB _ _).mono, G.tick.tick.mono (by omega), ?_⟩
  simp only [sAss, dItem, tp, e, t, gItem, a, e2, s]
  rfl
theorem sAugI_eq2 {op : Int → Int → Option Int} {fo fi g : ED} {σ : AS} {H H1 H2 H' : AH} {o i : AV} {x y z : Int} (h1 : fo σ H = some (o, H)) (h2 : fi σ H = some (i, H1)) (h3 : itemOf H1 o i = some (.int x)) (h4 : g σ H1 = some (.int y, H2)) (h5 : op x y = some z) (h6 : setI H2 o i (.int z) = some H') :
    sAugI op fo fi g σ H = some (.next, σ, H') := by
  simp only [sAugI, h1, h2, h3, h4, h5, h6]
theorem shl_lot (G : GoneOk p 900) (L : BtLk f σ) : ∃ y, dBin oShl (dInt 1) (dX (xCall d__law_lot (lCons (dVar 62) (lCons (dBin oAdd (dVar 19) (dInt 1)) (lNil))))) σ (Hp f p R) = some (.int y, Hp f (tick p) R) := by
  have hN := N_le f
  obtain ⟨r, r0, r1, e⟩ := lot_E (f := f) G (n := f.N + 1) (by omega) (R := R) L.l62 (e := dBin oAdd (dVar 19) (dInt 1)) (by simp only [dBin, dVar, L.l19, dInt, oAdd])
  have : oShl 1 r = some (1 * 2 ^ r.toNat) := by
    unfold oShl
    rw [if_pos (by unfold smS; exact decide_eq_true (by omega))]
  exact ⟨1 * 2 ^ r.toNat, by rw [dBin]; simp only [dInt] at e ⊢; rw [e]; simp only [this]⟩
theorem bend5 (S : Shp f k p) (hk : k ≤ 500) (G : GoneOk p n) (hn : n ≤ 500) (L : BtLk f σ) : Bd (sAugI oXor (dAttr (dVar 20) 11) (dX (xCall d__law_lot (lCons (dVar 62) (lCons (dInt 7) (lNil))))) (dBin oShl (dInt 1) (dX (xCall d__law_lot (lCons (dVar 62) (lCons (dBin oAdd (dVar 19) (dInt 1)) (lNil))))))) f (k + 1) (n + 2) p σ R := by
  obtain ⟨r, r0, r1, e⟩ := lot_E (f := f) (G.mono (by omega)) (n := 7) (by decide) (R := R) L.l62 (e := dInt 7) rfl
  obtain ⟨y, e2⟩ := shl_lot (f := f) (p := tick p) (σ := σ) (R := R) (G.tick.mono (by omega)) L
  obtain ⟨_, ⟨k1, k2⟩, _⟩ := id S
  have a : dAttr (dVar 20) 11 σ (Hp f p R) = some (.ref 49, Hp f p R) := pos20 L.l20 rfl
  have kl : (tick p).K.length = p.K.length := rfl
  have kl' : (tick (tick p)).K.length = p.K.length := rfl
  exact ⟨{ tick (tick p) with K := p.K.set r.toNat (Builtin.bitXor (gz p.K r.toNat) y) }, ((S.tick.tick).setK _ _).mono, G.tick.tick.mono (by omega), sAugI_eq2 a e (item_K (p := tick p) r0 (by omega) (by omega)) e2 rfl (setI_K (p := tick (tick p)) r0 (by omega) (by omega))⟩
theorem bend6 (S : Shp f k p) (hk : k ≤ 500) (G : GoneOk p n) (hn : n ≤ 500) (L : BtLk f σ) : Bd (sAugI oXor (dAttr (dVar 20) 12) (dX (xCall d__law_lot (lCons (dVar 62) (lCons (dInt 2) (lNil))))) (dBin oShl (dInt 1) (dX (xCall d__law_lot (lCons (dVar 62) (lCons (dBin oAdd (dVar 19) (dInt 1)) (lNil))))))) f (k + 1) (n + 2) p σ R := by
  obtain ⟨r, r0, r1, e⟩ := lot_E (f := f) (G.mono (by omega)) (n := 2) (by decide) (R := R) L.l62 (e := dInt 2) rfl
  obtain ⟨y, e2⟩ := shl_lot (f := f) (p := tick p) (σ := σ) (R := R) (G.tick.mono (by omega)) L
  obtain ⟨_, _, k1, k2⟩ := id S
  have a : dAttr (dVar 20) 12 σ (Hp f p R) = some (.ref 50, Hp f p R) := pos20 L.l20 rfl
  have kl : (tick p).D.length = p.D.length := rfl
  have kl' : (tick (tick p)).D.length = p.D.length := rfl
  exact ⟨{ tick (tick p) with D := p.D.set r.toNat (Builtin.bitXor (gz p.D r.toNat) y) }, ((S.tick.tick).setD _ _).mono, G.tick.tick.mono (by omega), sAugI_eq2 a e (item_D (p := tick p) r0 (by omega) (by omega)) e2 rfl (setI_D (p := tick (tick p)) r0 (by omega) (by omega))⟩
theorem bend7 (S : Shp f k p) (hk : k ≤ 500) (G : GoneOk p n) (hn : n ≤ 500) (L : BtLk f σ) : Bd (sAss (dNeg (dInt 1)) (gItem (dAttr (dVar 20) 11) (dX (xCall d__law_lot (lCons (dVar 62) (lCons (dInt 7) (lNil))))))) f (k + 1) (n + 2) p σ R := by
  obtain ⟨r, r0, r1, e⟩ := lot_E (f := f) (G.mono (by omega)) (n := 7) (by decide) (R := R) L.l62 (e := dInt 7) rfl
  obtain ⟨_, ⟨k1, k2⟩, _⟩ := id S
  have a : dAttr (dVar 20) 11 σ (Hp f p R) = some (.ref 49, Hp f p R) := pos20 L.l20 rfl
  have kl : (tick p).K.length = p.K.length := rfl
  have s := setI_K (f := f) (p := tick p) (R := R) (i := r) (v := -1) r0 (by omega) (by omega)
  refine ⟨{ tick p with K := p.K.set r.toNat (-1) }, ((S.tick).setK _ _).mono, G.tick.mono (by omega), ?_⟩
  simp only [sAss, dNeg, dInt] at e ⊢
  simp only [gItem, a, e, s]
  rfl
end
theorem bent_ok {f : Fm} {k : Nat} {n : Int} {p : PZ} {R : AH} (S : Shp f k p) (hk : k ≤ 500) (G : GoneOk p n) (hn : n ≤ 400) :
    ∃ p', Shp f (k + 1) p' ∧ GoneOk p' (n + 3) ∧ d__law_bent [.ref 1, .ref 45, .int f.N] (Hp f p R) = some (.val .none, Hp f p' R) := by
  let σ : AS := [(62, .ref 1), (20, .ref 45), (19, .int f.N)]
  have L : BtLk f σ := ⟨rfl, rfl, rfl⟩
  obtain ⟨w, w0, w1, e⟩ := lot_E (f := f) (G.mono (by omega)) (n := 10) (by decide) (R := R) L.l62 (e := dInt 10) rfl
  have s1 := sAss_eq (i := 60) e
  have L' : BtLk f (put 60 (.int w) σ) := L.put (by decide)
  have l60 : lk 60 (put 60 (.int w) σ) = some (.int w) := by rw [lk_put, if_pos rfl]
  generalize put 60 (.int w) σ = σ₁ at s1 L' l60
  have S' : Shp f k (tick p) := S
  have G' : GoneOk (tick p) (n + 1) := G.tick
  have hn' : n + 1 ≤ 500 := by omega
  obtain ⟨p', a, b, e'⟩ := Bd_if (c := 0) l60 (bend0 (R := R) S' G' hn' L') (Bd_if (c := 1) l60 (bend1 S' G' hn' L') (Bd_if (c := 2) l60 (bend2 S' G' hn' L') (Bd_if (c := 3) l60 (bend3 S' hk G' hn' L') (Bd_if (c := 4) l60 (bend4 S' hk G' hn' L') (Bd_if (c := 5) l60 (bend5 S' hk G' hn' L') (Bd_if (c := 6) l60 (bend6 S' hk G' hn' L') (Bd_if (c := 7) l60 (bend7 S' hk G' hn' L') (Bd_if (c := 8) l60 (bend8 S' G' hn' L') (bend9 S' G' hn' L')))))))))
  exact ⟨p', a, b.mono (by omega), fDef_next (b := b__law_bent) (σ := σ₁) rfl (bCons_next s1 (bCons_next e' rfl))⟩
end Mine
end
/-! part P38 -/
section
open PySem PySem.W PyProof.Rows
set_option maxRecDepth 100000
set_option maxHeartbeats 1000000
set_option linter.unusedVariables false
set_option linter.unusedSimpArgs false
namespace Mine
noncomputable def btBody : SD := (bCons (sExpr (xCall d__law_bent (lCons (dVar 62) (lCons (dVar 20) (lCons (dVar 19) (lNil))))))
  (bNil))
theorem bt_loop {f : Fm} {who : Int} {R : AH} : ∀ (l : List AV) {k : Nat} {n : Int} {p : PZ} (S : Shp f k p) (hk : k + l.length ≤ 500) (G : GoneOk p n) (hn : n + 3 * l.length ≤ 400) {σ : AS} (L : LwLk f who σ),
    ∃ σ' p', LwLk f who σ' ∧ Shp f (k + l.length) p' ∧ dFor (gName 66) btBody l σ (Hp f p R) = some (.next, σ', Hp f p' R) := by
  intro l
  induction l with
  | nil => intro k n p S hk G hn σ L; exact ⟨σ, p, L, S, rfl⟩
  | cons v r ih =>
    intro k n p S hk G hn σ L
    rw [List.length_cons] at hn hk
    have L1 : LwLk f who (put 66 v σ) := L.put (by decide)
    obtain ⟨p₁, S₁, G₁, e₁⟩ := bent_ok (R := R) S (by omega) G (by omega)
    have b : btBody (put 66 v σ) (Hp f p R) = some (.next, put 66 v σ, Hp f p₁ R) := by
      refine bCons_next (a := sExpr _) (σ' := put 66 v σ) (H' := Hp f p₁ R) ?_ rfl
      simp only [sExpr, xCall, lCons, lNil, dVar, L1.l62, L1.l20, L1.l19, e₁]
    obtain ⟨σ₂, p₂, L₂, S₂, e₂⟩ := ih S₁ (by omega) G₁ (by omega) L1
    refine ⟨σ₂, p₂, L₂, by rw [List.length_cons]; rwa [show k + (r.length + 1) = k + 1 + r.length by omega], ?_⟩
    unfold dFor gName
    dsimp only
    rw [b]
    exact e₂
noncomputable def lawRest : SD := (bCons (sAss (dX (xCall d__law_men (lCons (dVar 62) (lCons (dVar 23) (lCons (dVar 25) (lCons (dVar 64) (lNil))))))) (gName 65))
  (bCons (sFor (dRange (lCons (dVar 19) (lNil))) (gName 67) plBody)
  (bCons (sAss (dVar 64) (gAttr (dVar 20) 5))
  (bCons (sFor (dRange (lCons (dX (xCall d__law_lot (lCons (dVar 62) (lCons (dInt 3) (lNil))))) (lNil))) (gName 66) btBody)
  (bCons (sAss (dX (xCall d__law_blamed (lCons (dVar 20) (lCons (dVar 23) (lCons (dVar 25) (lCons (dVar 24) (lCons (dVar 72) (lNil)))))))) (gName 69))
  (bNil))))))
noncomputable def sgm (f : Fm) (who : Int) : AS := [(62, .ref 1), (23, .int f.F), (25, .int f.Rk), (24, .bool f.dbl), (72, .bool f.wng), (19, .int f.N), (64, .int who), (9, .ref 11), (20, .ref 45)]
theorem rest_ok {f : Fm} {who : Int} (hw : who = 0 ∨ who = 1) {p : PZ} (S : Shp f 0 p) (G : GoneOk p 2) :
    ∃ σ' p' R', lawRest (sgm f who) (Hp f p []) = some (.next, σ', Hp f p' R') ∧ lk 69 σ' = some (ofO (blame f p')) ∧ lk 20 σ' = some (.ref 45) ∧ p'.B.length ≤ 1000 ∧ p'.K.length ≤ 1000 ∧ p'.D.length ≤ 1000 := by
  have hN := N_le f
  obtain ⟨p₁, M, G₁, q₁, hM, e₁⟩ := men_ok (f := f) G (by decide) hw
  have s1 : sAss (dX (xCall d__law_men (lCons (dVar 62) (lCons (dVar 23) (lCons (dVar 25) (lCons (dVar 64) (lNil))))))) (gName 65) (sgm f who) (Hp f p []) = some (.next, put 65 (.ref 53) (sgm f who), Hp f p₁ (RM M)) := by
    refine sAss_eq ?_
    have a1 : lk 62 (sgm f who) = some (.ref 1) := rfl
    have a2 : lk 23 (sgm f who) = some (.int f.F) := rfl
    have a3 : lk 25 (sgm f who) = some (.int f.Rk) := rfl
    have a4 : lk 64 (sgm f who) = some (.int who) := rfl
    simp only [dX, xCall, lCons, lNil, dVar, a1, a2, a3, a4, e₁]
  have L₁ : LwLk f who (put 65 (.ref 53) (sgm f who)) := ⟨rfl, rfl, rfl, rfl, rfl, rfl, rfl, rfl, rfl⟩
  generalize put 65 (.ref 53) (sgm f who) = σ₁ at s1 L₁
  have S₁ : Shp f 0 p₁ := by rw [q₁]; exact S
  obtain ⟨σ₂, p₂, L₂, S₂, c₂, g₂, e₂⟩ := pl_loop (f := f) hM (who := who) f.N 0 (by omega) S₁ L₁
  have G₂ : GoneOk p₂ 12 := by unfold GoneOk; rw [c₂, g₂]; exact G₁
  have s2 : sFor (dRange (lCons (dVar 19) (lNil))) (gName 67) plBody σ₁ (Hp f p₁ (RM M)) = some (.next, σ₂, Hp f p₂ (RM M)) :=
    sFor_rng (range_E (by simp only [dVar, L₁.l19])) (by omega) e₂
  let p₃ : PZ := { p₂ with side := who }
  have s3 : sAss (dVar 64) (gAttr (dVar 20) 5) σ₂ (Hp f p₂ (RM M)) = some (.next, σ₂, Hp f p₃ (RM M)) := by
    have s := setA_pos (f := f) (p := p₂) (R := RM M) (i := 5) (v := .int who) p₃ ⟨rfl, rfl, rfl, rfl, rfl⟩ rfl
    simp only [sAss, gAttr, dVar, L₂.l64, L₂.l20, s]
  have S₃ : Shp f 0 p₃ := S₂
  have G₃ : GoneOk p₃ 12 := G₂
  obtain ⟨r, r0, r1, e₄⟩ := lot_E (f := f) (G₃.mono (by decide)) (n := 3) (by decide) (R := RM M) L₂.l62 (e := dInt 3) rfl
  obtain ⟨m, rfl⟩ : ∃ m : Nat, r = m := ⟨r.toNat, by omega⟩
  obtain ⟨σ₅, p₅, L₅, S₅, e₅⟩ := bt_loop (f := f) (R := RM M) (rngL 0 1 m) (p := tick p₃) S₃ (by rw [rngL_len]; omega) G₃.tick (by rw [rngL_len]; omega) L₂
  rw [rngL_len] at S₅
  obtain ⟨⟨_, b2⟩, ⟨_, k2⟩, _, d2⟩ := S₅
  obtain ⟨Y, e₆⟩ := blamed_ok (f := f) (p := p₅) (by omega) (by omega) (by omega) (RM M)
  have s5 : sAss (dX (xCall d__law_blamed (lCons (dVar 20) (lCons (dVar 23) (lCons (dVar 25) (lCons (dVar 24) (lCons (dVar 72) (lNil)))))))) (gName 69) σ₅ (Hp f p₅ (RM M)) = some (.next, put 69 (ofO (blame f p₅)) σ₅, Hp f p₅ (RM M ++ Y)) := by
    refine sAss_eq ?_
    simp only [dX, xCall, lCons, lNil, dVar, L₅.l20, L₅.l23, L₅.l25, L₅.l24, L₅.l72, e₆]
  refine ⟨put 69 (ofO (blame f p₅)) σ₅, p₅, RM M ++ Y, bCons_next s1 (bCons_next s2 (bCons_next s3 (bCons_next (sFor_rng (range_E e₄) (by omega) e₅) (bCons_next s5 rfl)))), by rw [lk_put, if_pos rfl], by rw [lk_put, if_neg (by decide)]; exact L₅.l20, by omega, by omega, by omega⟩
noncomputable def H2 (cells : List Int) (g : Int) : AH := [.list (cells.map .int), .map [(63, .ref 0), (85, .int g)]]
theorem lot_H2 {cells : List Int} (hc : cells.length ≤ 100) {g n : Int} (g0 : 0 ≤ g) (g1 : g < 900) (hn : 0 < n) {σ : AS} (l62 : lk 62 σ = some (.ref 1)) :
    ∃ r, 0 ≤ r ∧ r < n ∧ dX (xCall d__law_lot (lCons (dVar 62) (lCons (dInt n) lNil))) σ (H2 cells g) = some (.int r, H2 cells (g + 1)) := by
  obtain ⟨r, a, b, e⟩ := lot_ok (H := H2 cells g) (cells := cells) (g := g) (n := n) rfl rfl g0 (by omega) hn hc
  have e' : d__law_lot [.ref 1, .int n] (H2 cells g) = some (.val (.int r), H2 cells (g + 1)) := e
  exact ⟨r, a, b, by simp only [dX, xCall, lCons, lNil, dVar, l62, dInt, e']⟩
noncomputable def lawA : SD := (sAss (dItem (dK k_law_forms) (dX (xCall d__law_lot (lCons (dVar 62) (lCons (dInt 3) (lNil)))))) (gTup (gsCons (gName 23) (gsCons (gName 25) (gsCons (gName 24) (gsCons (gName 72) (gsNil)))))))
noncomputable def lawB : SD := (sSwap (dTup (lCons (dX (xCall d__law_lot (lCons (dVar 62) (lCons (dInt 2) (lNil))))) (lCons (dBin oMul (dVar 23) (dVar 25)) (lNil)))) 64 19)
noncomputable def sg1 (f : Fm) : AS := [(62, .ref 1), (23, .int f.F), (25, .int f.Rk), (24, .bool f.dbl), (72, .bool f.wng)]
noncomputable def sg2 (f : Fm) (who : Int) : AS := [(62, .ref 1), (23, .int f.F), (25, .int f.Rk), (24, .bool f.dbl), (72, .bool f.wng), (19, .int f.N), (64, .int who)]
noncomputable def tup4 (f : Fm) : AV := .tup [.int f.F, .int f.Rk, .bool f.dbl, .bool f.wng]
theorem form_item (H : AH) {r : Int} (h0 : 0 ≤ r) (h1 : r < 3) : ∃ f, itemOf H k_law_forms (.int r) = some (tup4 f) := by
  have : r = 0 ∨ r = 1 ∨ r = 2 := by omega
  rcases this with rfl | rfl | rfl
  · exact ⟨.a, rfl⟩
  · exact ⟨.b, rfl⟩
  · exact ⟨.c, rfl⟩
theorem lawA_ok {cells : List Int} (hc : cells.length ≤ 100) : ∃ f, lawA [(62, .ref 1)] (H2 cells 0) = some (.next, sg1 f, H2 cells 1) := by
  obtain ⟨r, r0, r1, e⟩ := lot_H2 hc (g := 0) (n := 3) (by decide) (by decide) (by decide) (σ := [(62, .ref 1)]) rfl
  obtain ⟨f, i⟩ := form_item (H2 cells (0 + 1)) r0 r1
  refine ⟨f, ?_⟩
  have h : dItem (dK k_law_forms) (dX (xCall d__law_lot (lCons (dVar 62) (lCons (dInt 3) (lNil))))) [(62, .ref 1)] (H2 cells 0) = some (tup4 f, H2 cells (0 + 1)) := by
    simp only [dItem, dK, e, i]
  unfold lawA sAss
  rw [h]
  rfl
theorem lawB_ok {cells : List Int} (hc : cells.length ≤ 100) (f : Fm) : ∃ who, (who = 0 ∨ who = 1) ∧ lawB (sg1 f) (H2 cells 1) = some (.next, sg2 f who, H2 cells 2) := by
  obtain ⟨r, r0, r1, e⟩ := lot_H2 hc (g := 1) (n := 2) (by decide) (by decide) (by decide) (σ := sg1 f) rfl
  refine ⟨r, by omega, ?_⟩
  have m : dBin oMul (dVar 23) (dVar 25) (sg1 f) (H2 cells (1 + 1)) = some (.int f.N, H2 cells (1 + 1)) := by cases f <;> rfl
  have h : dTup (lCons (dX (xCall d__law_lot (lCons (dVar 62) (lCons (dInt 2) (lNil))))) (lCons (dBin oMul (dVar 23) (dVar 25)) (lNil))) (sg1 f) (H2 cells 1) = some (.tup [.int r, .int f.N], H2 cells (1 + 1)) := by
    rw [dTup, lCons]
    simp only [e, lCons, m, lNil]
    rfl
  unfold lawB sSwap
  rw [h]
  rfl
noncomputable def p00 (f : Fm) (cells : List Int) : PZ := ⟨cells, 2, List.replicate f.N 0, List.replicate 7 0, [0, 0], 0, 0, -1, 0, 1⟩
theorem mid_ok (f : Fm) (cells : List Int) (who : Int) : mid34 (sg2 f who) (H2 cells 2) = some (.next, sgm f who, Hp f (p00 f cells) []) := by
  rw [p00, ← Hp_start]
  cases f
  · exact mid34_0 _ _ who
  · exact mid34_1 _ _ who
  · exact mid34_2 _ _ who
theorem PL (cells : List Int) (hc : cells.length ≤ 100) : lawRun cells := by
  obtain ⟨f, e1⟩ := lawA_ok hc
  obtain ⟨who, hw, e2⟩ := lawB_ok hc f
  have S : Shp f 0 (p00 f cells) := ⟨⟨by simp [p00], by simp [p00]⟩, ⟨by simp [p00], by simp [p00]⟩, by simp [p00], by simp [p00]⟩
  have G : GoneOk (p00 f cells) 2 := ⟨hc, by simp [p00], by simp [p00]⟩
  obtain ⟨σ', p', R', e3, l69, l20, nB, nK, nD⟩ := rest_ok (f := f) hw S G
  obtain ⟨Y, e4⟩ := check_position_ok (f := f) nB nK nD R'
  refine ⟨σ', Hp f p' R', outO (blame f p'), Hp f p' (R' ++ Y), ofO (blame f p'), ?_, ?_, l69, ?_⟩
  · exact bCons_next (a := lawA) e1 (bCons_next (a := lawB) e2 (bCons_splice2 (r := lawRest) (mid_ok f cells who) e3))
  · simp only [xCall, lCons, lNil, dVar, l20, e4]
  · cases blame f p' <;> rfl
end Mine
end
open PySem PySem.W PyProof.Rows
theorem PySem.Challenge.cw_pf0098_01_holds : PySem.Challenge.rw_pf0098_01.Holds :=
  Mine.walk Mine.PL
