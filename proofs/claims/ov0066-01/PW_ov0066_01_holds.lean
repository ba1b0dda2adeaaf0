import PyProof.Rows.All
import Wide.All
import OpenK.AllK
import Wide.FinOn
import PySem.Challenge.RW_ov0066_01
open PySem PySem.W PyProof.Rows
set_option Elab.async false
set_option maxRecDepth 100000
namespace Mine

set_option linter.unusedVariables false
/-! ## the top: its objects, by its own statements -/
abbrev prog : Program := PySem.Challenge.pw_ov0066_01
noncomputable def topAt (i : Nat) : Stmt := (prog.main.body[i]?).getD (.Pass ⟨0, 0, 0, 0⟩)
noncomputable def inAt (i j : Nat) : Stmt := match topAt i with
  | .ClassDef _ _ _ b .. => (b[j]?).getD (.Pass ⟨0, 0, 0, 0⟩)
  | s => s
def argsOf : Stmt → Arguments
  | .FunctionDef _ a _ _ _ _ _ _ _ _ => a
  | _ => ⟨[], [], none, [], [], none, []⟩
def bodyOf : Stmt → List Stmt
  | .FunctionDef _ _ b _ _ _ _ _ _ _ => b
  | _ => []
def scopeOf : Stmt → Scope
  | .FunctionDef _ _ _ _ _ _ s _ _ _ => s
  | _ => { kind := .module, names := [], isGenerator := false, isCoroutine := false, more := [] }
noncomputable def ob3 (P : Params) : Obj := ⟨PySem.Value.type "dict", Option.none, PySem.Data.dict (List.toArray [PySem.DictEntry.mk (PySem.PyData.keyHash P "__name__") (PySem.Value.str "__name__" 165) (PySem.Value.str "law_ov0066_01" 618), PySem.DictEntry.mk (PySem.PyData.keyHash P "__doc__") (PySem.Value.str "__doc__" 166) PySem.Value.none, PySem.DictEntry.mk (PySem.PyData.keyHash P "__package__") (PySem.Value.str "__package__" 167) PySem.Value.none, PySem.DictEntry.mk (PySem.PyData.keyHash P "__loader__") (PySem.Value.str "__loader__" 168) (PySem.Value.builtin "__main__.__loader__#opaque"), PySem.DictEntry.mk (PySem.PyData.keyHash P "__spec__") (PySem.Value.str "__spec__" 169) PySem.Value.none, PySem.DictEntry.mk (PySem.PyData.keyHash P "__annotations__") (PySem.Value.str "__annotations__" 170) (PySem.Value.ref 6), PySem.DictEntry.mk (PySem.PyData.keyHash P "__builtins__") (PySem.Value.str "__builtins__" 171) (PySem.Value.ref 4), PySem.DictEntry.mk (PySem.PyData.keyHash P "__file__") (PySem.Value.str "__file__" 173) (PySem.Value.str "/claim/cut.py" 172), PySem.DictEntry.mk (PySem.PyData.keyHash P "__cached__") (PySem.Value.str "__cached__" 174) PySem.Value.none, PySem.DictEntry.mk (PySem.PyData.keyHash P "_wall") (PySem.Value.str "_wall" 193) (PySem.Value.ref 21), PySem.DictEntry.mk (PySem.PyData.keyHash P "nearest_whole") (PySem.Value.str "nearest_whole" 205) (PySem.Value.ref 28), PySem.DictEntry.mk (PySem.PyData.keyHash P "exponent") (PySem.Value.str "exponent" 215) (PySem.Value.ref 35), PySem.DictEntry.mk (PySem.PyData.keyHash P "whole_text") (PySem.Value.str "whole_text" 227) (PySem.Value.ref 42), PySem.DictEntry.mk (PySem.PyData.keyHash P "special_text") (PySem.Value.str "special_text" 234) (PySem.Value.ref 49), PySem.DictEntry.mk (PySem.PyData.keyHash P "scaled") (PySem.Value.str "scaled" 244) (PySem.Value.ref 56), PySem.DictEntry.mk (PySem.PyData.keyHash P "significant") (PySem.Value.str "significant" 254) (PySem.Value.ref 63), PySem.DictEntry.mk (PySem.PyData.keyHash P "without_tail") (PySem.Value.str "without_tail" 262) (PySem.Value.ref 70), PySem.DictEntry.mk (PySem.PyData.keyHash P "scientific_text") (PySem.Value.str "scientific_text" 274) (PySem.Value.ref 77), PySem.DictEntry.mk (PySem.PyData.keyHash P "fixed_text") (PySem.Value.str "fixed_text" 284) (PySem.Value.ref 84), PySem.DictEntry.mk (PySem.PyData.keyHash P "measures") (PySem.Value.str "measures" 297) (PySem.Value.ref 91), PySem.DictEntry.mk (PySem.PyData.keyHash P "chosen_form") (PySem.Value.str "chosen_form" 314) (PySem.Value.ref 98), PySem.DictEntry.mk (PySem.PyData.keyHash P "formed") (PySem.Value.str "formed" 323) (PySem.Value.ref 105), PySem.DictEntry.mk (PySem.PyData.keyHash P "common_texts") (PySem.Value.str "common_texts" 329) (PySem.Value.ref 110), PySem.DictEntry.mk (PySem.PyData.keyHash P "number_text") (PySem.Value.str "number_text" 338) (PySem.Value.ref 118), PySem.DictEntry.mk (PySem.PyData.keyHash P "Null") (PySem.Value.str "Null" 369) (PySem.Value.ref 135), PySem.DictEntry.mk (PySem.PyData.keyHash P "Vector") (PySem.Value.str "Vector" 411) (PySem.Value.ref 164), PySem.DictEntry.mk (PySem.PyData.keyHash P "integer") (PySem.Value.str "integer" 418) (PySem.Value.ref 175), PySem.DictEntry.mk (PySem.PyData.keyHash P "character") (PySem.Value.str "character" 425) (PySem.Value.ref 182), PySem.DictEntry.mk (PySem.PyData.keyHash P "is_atomic") (PySem.Value.str "is_atomic" 432) (PySem.Value.ref 189), PySem.DictEntry.mk (PySem.PyData.keyHash P "share") (PySem.Value.str "share" 439) (PySem.Value.ref 196), PySem.DictEntry.mk (PySem.PyData.keyHash P "get_attr") (PySem.Value.str "get_attr" 449) (PySem.Value.ref 203), PySem.DictEntry.mk (PySem.PyData.keyHash P "label_text") (PySem.Value.str "label_text" 457) (PySem.Value.ref 210), PySem.DictEntry.mk (PySem.PyData.keyHash P "level_at") (PySem.Value.str "level_at" 465) (PySem.Value.ref 217), PySem.DictEntry.mk (PySem.PyData.keyHash P "label_texts") (PySem.Value.str "label_texts" 471) (PySem.Value.ref 222), PySem.DictEntry.mk (PySem.PyData.keyHash P "names_of") (PySem.Value.str "names_of" 477) (PySem.Value.ref 227), PySem.DictEntry.mk (PySem.PyData.keyHash P "dim_of") (PySem.Value.str "dim_of" 485) (PySem.Value.ref 234), PySem.DictEntry.mk (PySem.PyData.keyHash P "dimnames_of") (PySem.Value.str "dimnames_of" 491) (PySem.Value.ref 239), PySem.DictEntry.mk (PySem.PyData.keyHash P "class_attr") (PySem.Value.str "class_attr" 499) (PySem.Value.ref 246), PySem.DictEntry.mk (PySem.PyData.keyHash P "make_unique") (PySem.Value.str "make_unique" 516) (PySem.Value.ref 253), PySem.DictEntry.mk (PySem.PyData.keyHash P "new_frame") (PySem.Value.str "new_frame" 524) (PySem.Value.ref 258), PySem.DictEntry.mk (PySem.PyData.keyHash P "frame_rows") (PySem.Value.str "frame_rows" 531) (PySem.Value.ref 265), PySem.DictEntry.mk (PySem.PyData.keyHash P "column_names") (PySem.Value.str "column_names" 537) (PySem.Value.ref 270), PySem.DictEntry.mk (PySem.PyData.keyHash P "row_names") (PySem.Value.str "row_names" 544) (PySem.Value.ref 277), PySem.DictEntry.mk (PySem.PyData.keyHash P "kept_attrs") (PySem.Value.str "kept_attrs" 553) (PySem.Value.ref 284), PySem.DictEntry.mk (PySem.PyData.keyHash P "lacking") (PySem.Value.str "lacking" 560) (PySem.Value.ref 291), PySem.DictEntry.mk (PySem.PyData.keyHash P "pick_items") (PySem.Value.str "pick_items" 571) (PySem.Value.ref 298), PySem.DictEntry.mk (PySem.PyData.keyHash P "picked_labels") (PySem.Value.str "picked_labels" 577) (PySem.Value.ref 303), PySem.DictEntry.mk (PySem.PyData.keyHash P "pick_rows") (PySem.Value.str "pick_rows" 583) (PySem.Value.ref 308), PySem.DictEntry.mk (PySem.PyData.keyHash P "head_places") (PySem.Value.str "head_places" 591) (PySem.Value.ref 315), PySem.DictEntry.mk (PySem.PyData.keyHash P "head_frame") (PySem.Value.str "head_frame" 599) (PySem.Value.ref 322), PySem.DictEntry.mk (PySem.PyData.keyHash P "tail_frame") (PySem.Value.str "tail_frame" 609) (PySem.Value.ref 329), PySem.DictEntry.mk (PySem.PyData.keyHash P "order_frame") (PySem.Value.str "order_frame" 617) (PySem.Value.ref 336), PySem.DictEntry.mk (PySem.PyData.keyHash P "_law_ladle") (PySem.Value.str "_law_ladle" 631) (PySem.Value.ref 343), PySem.DictEntry.mk (PySem.PyData.keyHash P "_law_column") (PySem.Value.str "_law_column" 644) (PySem.Value.ref 350), PySem.DictEntry.mk (PySem.PyData.keyHash P "_law_frame") (PySem.Value.str "_law_frame" 650) (PySem.Value.ref 355), PySem.DictEntry.mk (PySem.PyData.keyHash P "_law_order") (PySem.Value.str "_law_order" 661) (PySem.Value.ref 362), PySem.DictEntry.mk (PySem.PyData.keyHash P "_law_plain") (PySem.Value.str "_law_plain" 667) (PySem.Value.ref 367), PySem.DictEntry.mk (PySem.PyData.keyHash P "_law_moved") (PySem.Value.str "_law_moved" 673) (PySem.Value.ref 372), PySem.DictEntry.mk (PySem.PyData.keyHash P "_law_joined") (PySem.Value.str "_law_joined" 686) (PySem.Value.ref 379), PySem.DictEntry.mk (PySem.PyData.keyHash P "_law_again") (PySem.Value.str "_law_again" 707) (PySem.Value.ref 386), PySem.DictEntry.mk (PySem.PyData.keyHash P "law") (PySem.Value.str "law" 713) (PySem.Value.ref 391)]) 61, List.toArray []⟩
noncomputable def ob11 (P : Params) : Obj := ⟨PySem.Value.type "tuple", Option.none, PySem.Data.seq (List.toArray []) 0, List.toArray []⟩
noncomputable def ob12 (P : Params) : Obj := ⟨PySem.Value.none, Option.none, PySem.Data.fields (List.toArray [PySem.Value.int 1 0, PySem.Value.int 0 0, PySem.Value.ref 20, PySem.Value.int 5 0, PySem.Value.int 0 0, PySem.Value.ref 27, PySem.Value.int 11 0, PySem.Value.int 0 0, PySem.Value.ref 34, PySem.Value.int 23 0, PySem.Value.int 0 0, PySem.Value.ref 41, PySem.Value.int 34 0, PySem.Value.int 0 0, PySem.Value.ref 48, PySem.Value.int 42 0, PySem.Value.int 0 0, PySem.Value.ref 55, PySem.Value.int 47 0, PySem.Value.int 0 0, PySem.Value.ref 62, PySem.Value.int 56 0, PySem.Value.int 0 0, PySem.Value.ref 69, PySem.Value.int 61 0, PySem.Value.int 0 0, PySem.Value.ref 76, PySem.Value.int 68 0, PySem.Value.int 0 0, PySem.Value.ref 83, PySem.Value.int 76 0, PySem.Value.int 0 0, PySem.Value.ref 90, PySem.Value.int 83 0, PySem.Value.int 0 0, PySem.Value.ref 97, PySem.Value.int 103 0, PySem.Value.int 0 0, PySem.Value.ref 104, PySem.Value.int 110 0, PySem.Value.int 0 0, PySem.Value.ref 109, PySem.Value.int 114 0, PySem.Value.int 0 0, PySem.Value.ref 117, PySem.Value.int 117 0, PySem.Value.int 0 0, PySem.Value.ref 124, PySem.Value.int 122 0, PySem.Value.int 0 0, PySem.Value.ref 145, PySem.Value.int 133 0, PySem.Value.int 0 0, PySem.Value.ref 174, PySem.Value.int 135 0, PySem.Value.int 0 0, PySem.Value.ref 181, PySem.Value.int 137 0, PySem.Value.int 0 0, PySem.Value.ref 188, PySem.Value.int 139 0, PySem.Value.int 0 0, PySem.Value.ref 195, PySem.Value.int 144 0, PySem.Value.int 0 0, PySem.Value.ref 202, PySem.Value.int 148 0, PySem.Value.int 0 0, PySem.Value.ref 209, PySem.Value.int 156 0, PySem.Value.int 0 0, PySem.Value.ref 216, PySem.Value.int 160 0, PySem.Value.int 0 0, PySem.Value.ref 221, PySem.Value.int 166 0, PySem.Value.int 0 0, PySem.Value.ref 226, PySem.Value.int 182 0, PySem.Value.int 0 0, PySem.Value.ref 233, PySem.Value.int 187 0, PySem.Value.int 0 0, PySem.Value.ref 238, PySem.Value.int 192 0, PySem.Value.int 0 0, PySem.Value.ref 245, PySem.Value.int 198 0, PySem.Value.int 0 0, PySem.Value.ref 252, PySem.Value.int 220 0, PySem.Value.int 0 0, PySem.Value.ref 257, PySem.Value.int 224 0, PySem.Value.int 0 0, PySem.Value.ref 264, PySem.Value.int 228 0, PySem.Value.int 0 0, PySem.Value.ref 269, PySem.Value.int 231 0, PySem.Value.int 0 0, PySem.Value.ref 276, PySem.Value.int 235 0, PySem.Value.int 0 0, PySem.Value.ref 283, PySem.Value.int 243 0, PySem.Value.int 0 0, PySem.Value.ref 290, PySem.Value.int 247 0, PySem.Value.int 0 0, PySem.Value.ref 297, PySem.Value.int 256 0, PySem.Value.int 0 0, PySem.Value.ref 302, PySem.Value.int 272 0, PySem.Value.int 0 0, PySem.Value.ref 307, PySem.Value.int 275 0, PySem.Value.int 0 0, PySem.Value.ref 314, PySem.Value.int 279 0, PySem.Value.int 0 0, PySem.Value.ref 321, PySem.Value.int 281 0, PySem.Value.int 0 0, PySem.Value.ref 328, PySem.Value.int 285 0, PySem.Value.int 0 0, PySem.Value.ref 335, PySem.Value.int 288 0, PySem.Value.int 0 0, PySem.Value.ref 342, PySem.Value.int 301 0, PySem.Value.int 0 0, PySem.Value.ref 349, PySem.Value.int 318 0, PySem.Value.int 0 0, PySem.Value.ref 354, PySem.Value.int 326 0, PySem.Value.int 0 0, PySem.Value.ref 361, PySem.Value.int 332 0, PySem.Value.int 0 0, PySem.Value.ref 366, PySem.Value.int 339 0, PySem.Value.int 0 0, PySem.Value.ref 371, PySem.Value.int 343 0, PySem.Value.int 0 0, PySem.Value.ref 378, PySem.Value.int 350 0, PySem.Value.int 0 0, PySem.Value.ref 385, PySem.Value.int 373 0, PySem.Value.int 0 0, PySem.Value.ref 390]), List.toArray []⟩
noncomputable def ob13 (P : Params) : Obj := ⟨PySem.Value.type "code", Option.none, PySem.Data.fields (List.toArray [PySem.Value.str "<module>" 182, PySem.Value.str "<module>" 183, PySem.Value.str "/claim/cut.py" 184, PySem.Value.int 1 0, PySem.Value.int 0 0, PySem.Value.int 0 0, PySem.Value.int 0 0, PySem.Value.int 0 0, PySem.Value.ref 11, PySem.Value.bool Bool.false, PySem.Value.int 181 0, PySem.Value.ref 12, PySem.Value.none, PySem.Value.none, PySem.Value.none, PySem.Value.none, PySem.Value.int 185 0, PySem.Value.int 1 0, PySem.Value.str "/claim/cut.py" 186]), List.toArray []⟩
noncomputable def ob14 (P : Params) : Obj := ⟨PySem.Value.type "frame", Option.none, PySem.Data.plain, List.toArray [Option.some (PySem.Value.ref 13), Option.some (PySem.Value.ref 3), Option.some (PySem.Value.ref 3), Option.none, Option.some (PySem.Value.str "__main__" 164), Option.none, Option.some (PySem.Value.ref 0)]⟩
noncomputable def ob15 (P : Params) : Obj := ⟨PySem.Value.type "tuple", Option.none, PySem.Data.seq (List.toArray []) 0, List.toArray []⟩
noncomputable def ob16 (P : Params) : Obj := ⟨PySem.Value.none, Option.none, PySem.Data.fields (List.toArray []), List.toArray []⟩
noncomputable def ob17 (P : Params) : Obj := ⟨PySem.Value.type "tuple", Option.none, PySem.Data.seq (List.toArray [PySem.Value.str "k" 190]) 0, List.toArray []⟩
noncomputable def ob18 (P : Params) : Obj := ⟨PySem.Value.type "tuple", Option.none, PySem.Data.seq (List.toArray []) 0, List.toArray []⟩
noncomputable def ob19 (P : Params) : Obj := ⟨PySem.Value.none, Option.none, .func ⟨"_wall", "_wall", (argsOf (topAt 0)), (PySem.FuncBody.stmts (bodyOf (topAt 0))), (scopeOf (topAt 0)), 0, [], PySem.Value.none, PySem.Value.none, PySem.Value.none, PySem.Value.none, Option.none, PySem.Value.none, PySem.Value.none, 0⟩, List.toArray []⟩
noncomputable def ob20 (P : Params) : Obj := ⟨PySem.Value.type "code", Option.none, PySem.Data.fields (List.toArray [PySem.Value.str "_wall" 187, PySem.Value.str "_wall" 188, PySem.Value.str "/claim/cut.py" 189, PySem.Value.int 1 0, PySem.Value.int 1 0, PySem.Value.int 0 0, PySem.Value.int 0 0, PySem.Value.int 3 0, PySem.Value.ref 15, PySem.Value.bool Bool.true, PySem.Value.int 181 0, PySem.Value.ref 16, PySem.Value.none, PySem.Value.ref 17, PySem.Value.ref 18, PySem.Value.ref 19, PySem.Value.int 191 0, PySem.Value.int 1 0, PySem.Value.str "/claim/cut.py" 192]), List.toArray []⟩
noncomputable def ob21 (P : Params) : Obj := ⟨PySem.Value.type "function", Option.none, .func ⟨"_wall", "_wall", (argsOf (topAt 0)), (PySem.FuncBody.stmts (bodyOf (topAt 0))), (scopeOf (topAt 0)), 3, [], PySem.Value.none, PySem.Value.none, PySem.Value.none, (PySem.Value.str "__main__" 164), Option.none, (PySem.Value.ref 20), PySem.Value.none, 0⟩, List.toArray []⟩
noncomputable def ob22 (P : Params) : Obj := ⟨PySem.Value.type "tuple", Option.none, PySem.Data.seq (List.toArray []) 0, List.toArray []⟩
noncomputable def ob23 (P : Params) : Obj := ⟨PySem.Value.none, Option.none, PySem.Data.fields (List.toArray []), List.toArray []⟩
noncomputable def ob24 (P : Params) : Obj := ⟨PySem.Value.type "tuple", Option.none, PySem.Data.seq (List.toArray [PySem.Value.str "n" 199, PySem.Value.str "d" 200, PySem.Value.str "low" 201, PySem.Value.str "rest" 202]) 0, List.toArray []⟩
noncomputable def ob25 (P : Params) : Obj := ⟨PySem.Value.type "tuple", Option.none, PySem.Data.seq (List.toArray []) 0, List.toArray []⟩
noncomputable def ob26 (P : Params) : Obj := ⟨PySem.Value.none, Option.none, .func ⟨"nearest_whole", "nearest_whole", (argsOf (topAt 2)), (PySem.FuncBody.stmts (bodyOf (topAt 2))), (scopeOf (topAt 2)), 0, [], PySem.Value.none, PySem.Value.none, PySem.Value.none, PySem.Value.none, Option.none, PySem.Value.none, PySem.Value.none, 0⟩, List.toArray []⟩
noncomputable def ob27 (P : Params) : Obj := ⟨PySem.Value.type "code", Option.none, PySem.Data.fields (List.toArray [PySem.Value.str "nearest_whole" 196, PySem.Value.str "nearest_whole" 197, PySem.Value.str "/claim/cut.py" 198, PySem.Value.int 5 0, PySem.Value.int 2 0, PySem.Value.int 0 0, PySem.Value.int 0 0, PySem.Value.int 3 0, PySem.Value.ref 22, PySem.Value.bool Bool.true, PySem.Value.int 181 0, PySem.Value.ref 23, PySem.Value.none, PySem.Value.ref 24, PySem.Value.ref 25, PySem.Value.ref 26, PySem.Value.int 203 0, PySem.Value.int 5 0, PySem.Value.str "/claim/cut.py" 204]), List.toArray []⟩
noncomputable def ob28 (P : Params) : Obj := ⟨PySem.Value.type "function", Option.none, .func ⟨"nearest_whole", "nearest_whole", (argsOf (topAt 2)), (PySem.FuncBody.stmts (bodyOf (topAt 2))), (scopeOf (topAt 2)), 3, [], PySem.Value.none, PySem.Value.none, PySem.Value.none, (PySem.Value.str "vectorcove.rational" 194), Option.none, (PySem.Value.ref 27), PySem.Value.none, 0⟩, List.toArray []⟩
noncomputable def ob29 (P : Params) : Obj := ⟨PySem.Value.type "tuple", Option.none, PySem.Data.seq (List.toArray []) 0, List.toArray []⟩
noncomputable def ob30 (P : Params) : Obj := ⟨PySem.Value.none, Option.none, PySem.Data.fields (List.toArray []), List.toArray []⟩
noncomputable def ob31 (P : Params) : Obj := ⟨PySem.Value.type "tuple", Option.none, PySem.Data.seq (List.toArray [PySem.Value.str "x" 209, PySem.Value.str "n" 210, PySem.Value.str "d" 211, PySem.Value.str "e" 212]) 0, List.toArray []⟩
noncomputable def ob32 (P : Params) : Obj := ⟨PySem.Value.type "tuple", Option.none, PySem.Data.seq (List.toArray []) 0, List.toArray []⟩
noncomputable def ob33 (P : Params) : Obj := ⟨PySem.Value.none, Option.none, .func ⟨"exponent", "exponent", (argsOf (topAt 3)), (PySem.FuncBody.stmts (bodyOf (topAt 3))), (scopeOf (topAt 3)), 0, [], PySem.Value.none, PySem.Value.none, PySem.Value.none, PySem.Value.none, Option.none, PySem.Value.none, PySem.Value.none, 0⟩, List.toArray []⟩
noncomputable def ob34 (P : Params) : Obj := ⟨PySem.Value.type "code", Option.none, PySem.Data.fields (List.toArray [PySem.Value.str "exponent" 206, PySem.Value.str "exponent" 207, PySem.Value.str "/claim/cut.py" 208, PySem.Value.int 11 0, PySem.Value.int 1 0, PySem.Value.int 0 0, PySem.Value.int 0 0, PySem.Value.int 3 0, PySem.Value.ref 29, PySem.Value.bool Bool.true, PySem.Value.int 181 0, PySem.Value.ref 30, PySem.Value.none, PySem.Value.ref 31, PySem.Value.ref 32, PySem.Value.ref 33, PySem.Value.int 213 0, PySem.Value.int 11 0, PySem.Value.str "/claim/cut.py" 214]), List.toArray []⟩
noncomputable def ob35 (P : Params) : Obj := ⟨PySem.Value.type "function", Option.none, .func ⟨"exponent", "exponent", (argsOf (topAt 3)), (PySem.FuncBody.stmts (bodyOf (topAt 3))), (scopeOf (topAt 3)), 3, [], PySem.Value.none, PySem.Value.none, PySem.Value.none, (PySem.Value.str "vectorcove.rational" 194), Option.none, (PySem.Value.ref 34), PySem.Value.none, 0⟩, List.toArray []⟩
noncomputable def ob36 (P : Params) : Obj := ⟨PySem.Value.type "tuple", Option.none, PySem.Data.seq (List.toArray []) 0, List.toArray []⟩
noncomputable def ob37 (P : Params) : Obj := ⟨PySem.Value.none, Option.none, PySem.Data.fields (List.toArray []), List.toArray []⟩
noncomputable def ob38 (P : Params) : Obj := ⟨PySem.Value.type "tuple", Option.none, PySem.Data.seq (List.toArray [PySem.Value.str "n" 221, PySem.Value.str "rest" 222, PySem.Value.str "row" 223, PySem.Value.str "part" 224]) 0, List.toArray []⟩
noncomputable def ob39 (P : Params) : Obj := ⟨PySem.Value.type "tuple", Option.none, PySem.Data.seq (List.toArray []) 0, List.toArray []⟩
noncomputable def ob40 (P : Params) : Obj := ⟨PySem.Value.none, Option.none, .func ⟨"whole_text", "whole_text", (argsOf (topAt 5)), (PySem.FuncBody.stmts (bodyOf (topAt 5))), (scopeOf (topAt 5)), 0, [], PySem.Value.none, PySem.Value.none, PySem.Value.none, PySem.Value.none, Option.none, PySem.Value.none, PySem.Value.none, 0⟩, List.toArray []⟩
noncomputable def ob41 (P : Params) : Obj := ⟨PySem.Value.type "code", Option.none, PySem.Data.fields (List.toArray [PySem.Value.str "whole_text" 218, PySem.Value.str "whole_text" 219, PySem.Value.str "/claim/cut.py" 220, PySem.Value.int 23 0, PySem.Value.int 1 0, PySem.Value.int 0 0, PySem.Value.int 0 0, PySem.Value.int 3 0, PySem.Value.ref 36, PySem.Value.bool Bool.true, PySem.Value.int 181 0, PySem.Value.ref 37, PySem.Value.none, PySem.Value.ref 38, PySem.Value.ref 39, PySem.Value.ref 40, PySem.Value.int 225 0, PySem.Value.int 23 0, PySem.Value.str "/claim/cut.py" 226]), List.toArray []⟩
noncomputable def ob42 (P : Params) : Obj := ⟨PySem.Value.type "function", Option.none, .func ⟨"whole_text", "whole_text", (argsOf (topAt 5)), (PySem.FuncBody.stmts (bodyOf (topAt 5))), (scopeOf (topAt 5)), 3, [], PySem.Value.none, PySem.Value.none, PySem.Value.none, (PySem.Value.str "vectorcove.numtext" 216), Option.none, (PySem.Value.ref 41), PySem.Value.none, 0⟩, List.toArray []⟩
noncomputable def ob43 (P : Params) : Obj := ⟨PySem.Value.type "tuple", Option.none, PySem.Data.seq (List.toArray []) 0, List.toArray []⟩
noncomputable def ob44 (P : Params) : Obj := ⟨PySem.Value.none, Option.none, PySem.Data.fields (List.toArray []), List.toArray []⟩
noncomputable def ob45 (P : Params) : Obj := ⟨PySem.Value.type "tuple", Option.none, PySem.Data.seq (List.toArray [PySem.Value.str "x" 231]) 0, List.toArray []⟩
noncomputable def ob46 (P : Params) : Obj := ⟨PySem.Value.type "tuple", Option.none, PySem.Data.seq (List.toArray []) 0, List.toArray []⟩
noncomputable def ob47 (P : Params) : Obj := ⟨PySem.Value.none, Option.none, .func ⟨"special_text", "special_text", (argsOf (topAt 6)), (PySem.FuncBody.stmts (bodyOf (topAt 6))), (scopeOf (topAt 6)), 0, [], PySem.Value.none, PySem.Value.none, PySem.Value.none, PySem.Value.none, Option.none, PySem.Value.none, PySem.Value.none, 0⟩, List.toArray []⟩
noncomputable def ob48 (P : Params) : Obj := ⟨PySem.Value.type "code", Option.none, PySem.Data.fields (List.toArray [PySem.Value.str "special_text" 228, PySem.Value.str "special_text" 229, PySem.Value.str "/claim/cut.py" 230, PySem.Value.int 34 0, PySem.Value.int 1 0, PySem.Value.int 0 0, PySem.Value.int 0 0, PySem.Value.int 3 0, PySem.Value.ref 43, PySem.Value.bool Bool.true, PySem.Value.int 181 0, PySem.Value.ref 44, PySem.Value.none, PySem.Value.ref 45, PySem.Value.ref 46, PySem.Value.ref 47, PySem.Value.int 232 0, PySem.Value.int 34 0, PySem.Value.str "/claim/cut.py" 233]), List.toArray []⟩
noncomputable def ob49 (P : Params) : Obj := ⟨PySem.Value.type "function", Option.none, .func ⟨"special_text", "special_text", (argsOf (topAt 6)), (PySem.FuncBody.stmts (bodyOf (topAt 6))), (scopeOf (topAt 6)), 3, [], PySem.Value.none, PySem.Value.none, PySem.Value.none, (PySem.Value.str "vectorcove.numtext" 216), Option.none, (PySem.Value.ref 48), PySem.Value.none, 0⟩, List.toArray []⟩
noncomputable def ob50 (P : Params) : Obj := ⟨PySem.Value.type "tuple", Option.none, PySem.Data.seq (List.toArray []) 0, List.toArray []⟩
noncomputable def ob51 (P : Params) : Obj := ⟨PySem.Value.none, Option.none, PySem.Data.fields (List.toArray []), List.toArray []⟩
noncomputable def ob52 (P : Params) : Obj := ⟨PySem.Value.type "tuple", Option.none, PySem.Data.seq (List.toArray [PySem.Value.str "x" 238, PySem.Value.str "e" 239, PySem.Value.str "digits" 240, PySem.Value.str "shift" 241]) 0, List.toArray []⟩
noncomputable def ob53 (P : Params) : Obj := ⟨PySem.Value.type "tuple", Option.none, PySem.Data.seq (List.toArray []) 0, List.toArray []⟩
noncomputable def ob54 (P : Params) : Obj := ⟨PySem.Value.none, Option.none, .func ⟨"scaled", "scaled", (argsOf (topAt 7)), (PySem.FuncBody.stmts (bodyOf (topAt 7))), (scopeOf (topAt 7)), 0, [], PySem.Value.none, PySem.Value.none, PySem.Value.none, PySem.Value.none, Option.none, PySem.Value.none, PySem.Value.none, 0⟩, List.toArray []⟩
noncomputable def ob55 (P : Params) : Obj := ⟨PySem.Value.type "code", Option.none, PySem.Data.fields (List.toArray [PySem.Value.str "scaled" 235, PySem.Value.str "scaled" 236, PySem.Value.str "/claim/cut.py" 237, PySem.Value.int 42 0, PySem.Value.int 3 0, PySem.Value.int 0 0, PySem.Value.int 0 0, PySem.Value.int 3 0, PySem.Value.ref 50, PySem.Value.bool Bool.true, PySem.Value.int 181 0, PySem.Value.ref 51, PySem.Value.none, PySem.Value.ref 52, PySem.Value.ref 53, PySem.Value.ref 54, PySem.Value.int 242 0, PySem.Value.int 42 0, PySem.Value.str "/claim/cut.py" 243]), List.toArray []⟩
noncomputable def ob56 (P : Params) : Obj := ⟨PySem.Value.type "function", Option.none, .func ⟨"scaled", "scaled", (argsOf (topAt 7)), (PySem.FuncBody.stmts (bodyOf (topAt 7))), (scopeOf (topAt 7)), 3, [], PySem.Value.none, PySem.Value.none, PySem.Value.none, (PySem.Value.str "vectorcove.numtext" 216), Option.none, (PySem.Value.ref 55), PySem.Value.none, 0⟩, List.toArray []⟩
noncomputable def ob57 (P : Params) : Obj := ⟨PySem.Value.type "tuple", Option.none, PySem.Data.seq (List.toArray []) 0, List.toArray []⟩
noncomputable def ob58 (P : Params) : Obj := ⟨PySem.Value.none, Option.none, PySem.Data.fields (List.toArray []), List.toArray []⟩
noncomputable def ob59 (P : Params) : Obj := ⟨PySem.Value.type "tuple", Option.none, PySem.Data.seq (List.toArray [PySem.Value.str "x" 248, PySem.Value.str "digits" 249, PySem.Value.str "e" 250, PySem.Value.str "n" 251]) 0, List.toArray []⟩
noncomputable def ob60 (P : Params) : Obj := ⟨PySem.Value.type "tuple", Option.none, PySem.Data.seq (List.toArray []) 0, List.toArray []⟩
noncomputable def ob61 (P : Params) : Obj := ⟨PySem.Value.none, Option.none, .func ⟨"significant", "significant", (argsOf (topAt 8)), (PySem.FuncBody.stmts (bodyOf (topAt 8))), (scopeOf (topAt 8)), 0, [], PySem.Value.none, PySem.Value.none, PySem.Value.none, PySem.Value.none, Option.none, PySem.Value.none, PySem.Value.none, 0⟩, List.toArray []⟩
noncomputable def ob62 (P : Params) : Obj := ⟨PySem.Value.type "code", Option.none, PySem.Data.fields (List.toArray [PySem.Value.str "significant" 245, PySem.Value.str "significant" 246, PySem.Value.str "/claim/cut.py" 247, PySem.Value.int 47 0, PySem.Value.int 2 0, PySem.Value.int 0 0, PySem.Value.int 0 0, PySem.Value.int 3 0, PySem.Value.ref 57, PySem.Value.bool Bool.true, PySem.Value.int 181 0, PySem.Value.ref 58, PySem.Value.none, PySem.Value.ref 59, PySem.Value.ref 60, PySem.Value.ref 61, PySem.Value.int 252 0, PySem.Value.int 47 0, PySem.Value.str "/claim/cut.py" 253]), List.toArray []⟩
noncomputable def ob63 (P : Params) : Obj := ⟨PySem.Value.type "function", Option.none, .func ⟨"significant", "significant", (argsOf (topAt 8)), (PySem.FuncBody.stmts (bodyOf (topAt 8))), (scopeOf (topAt 8)), 3, [], PySem.Value.none, PySem.Value.none, PySem.Value.none, (PySem.Value.str "vectorcove.numtext" 216), Option.none, (PySem.Value.ref 62), PySem.Value.none, 0⟩, List.toArray []⟩
noncomputable def ob64 (P : Params) : Obj := ⟨PySem.Value.type "tuple", Option.none, PySem.Data.seq (List.toArray []) 0, List.toArray []⟩
noncomputable def ob65 (P : Params) : Obj := ⟨PySem.Value.none, Option.none, PySem.Data.fields (List.toArray []), List.toArray []⟩
noncomputable def ob66 (P : Params) : Obj := ⟨PySem.Value.type "tuple", Option.none, PySem.Data.seq (List.toArray [PySem.Value.str "text" 258, PySem.Value.str "end" 259]) 0, List.toArray []⟩
noncomputable def ob67 (P : Params) : Obj := ⟨PySem.Value.type "tuple", Option.none, PySem.Data.seq (List.toArray []) 0, List.toArray []⟩
noncomputable def ob68 (P : Params) : Obj := ⟨PySem.Value.none, Option.none, .func ⟨"without_tail", "without_tail", (argsOf (topAt 9)), (PySem.FuncBody.stmts (bodyOf (topAt 9))), (scopeOf (topAt 9)), 0, [], PySem.Value.none, PySem.Value.none, PySem.Value.none, PySem.Value.none, Option.none, PySem.Value.none, PySem.Value.none, 0⟩, List.toArray []⟩
noncomputable def ob69 (P : Params) : Obj := ⟨PySem.Value.type "code", Option.none, PySem.Data.fields (List.toArray [PySem.Value.str "without_tail" 255, PySem.Value.str "without_tail" 256, PySem.Value.str "/claim/cut.py" 257, PySem.Value.int 56 0, PySem.Value.int 1 0, PySem.Value.int 0 0, PySem.Value.int 0 0, PySem.Value.int 3 0, PySem.Value.ref 64, PySem.Value.bool Bool.true, PySem.Value.int 181 0, PySem.Value.ref 65, PySem.Value.none, PySem.Value.ref 66, PySem.Value.ref 67, PySem.Value.ref 68, PySem.Value.int 260 0, PySem.Value.int 56 0, PySem.Value.str "/claim/cut.py" 261]), List.toArray []⟩
noncomputable def ob70 (P : Params) : Obj := ⟨PySem.Value.type "function", Option.none, .func ⟨"without_tail", "without_tail", (argsOf (topAt 9)), (PySem.FuncBody.stmts (bodyOf (topAt 9))), (scopeOf (topAt 9)), 3, [], PySem.Value.none, PySem.Value.none, PySem.Value.none, (PySem.Value.str "vectorcove.numtext" 216), Option.none, (PySem.Value.ref 69), PySem.Value.none, 0⟩, List.toArray []⟩
noncomputable def ob71 (P : Params) : Obj := ⟨PySem.Value.type "tuple", Option.none, PySem.Data.seq (List.toArray []) 0, List.toArray []⟩
noncomputable def ob72 (P : Params) : Obj := ⟨PySem.Value.none, Option.none, PySem.Data.fields (List.toArray []), List.toArray []⟩
noncomputable def ob73 (P : Params) : Obj := ⟨PySem.Value.type "tuple", Option.none, PySem.Data.seq (List.toArray [PySem.Value.str "x" 266, PySem.Value.str "digits" 267, PySem.Value.str "side" 268, PySem.Value.str "text" 269, PySem.Value.str "e" 270, PySem.Value.str "row" 271]) 0, List.toArray []⟩
noncomputable def ob74 (P : Params) : Obj := ⟨PySem.Value.type "tuple", Option.none, PySem.Data.seq (List.toArray []) 0, List.toArray []⟩
noncomputable def ob75 (P : Params) : Obj := ⟨PySem.Value.none, Option.none, .func ⟨"scientific_text", "scientific_text", (argsOf (topAt 10)), (PySem.FuncBody.stmts (bodyOf (topAt 10))), (scopeOf (topAt 10)), 0, [], PySem.Value.none, PySem.Value.none, PySem.Value.none, PySem.Value.none, Option.none, PySem.Value.none, PySem.Value.none, 0⟩, List.toArray []⟩
noncomputable def ob76 (P : Params) : Obj := ⟨PySem.Value.type "code", Option.none, PySem.Data.fields (List.toArray [PySem.Value.str "scientific_text" 263, PySem.Value.str "scientific_text" 264, PySem.Value.str "/claim/cut.py" 265, PySem.Value.int 61 0, PySem.Value.int 2 0, PySem.Value.int 0 0, PySem.Value.int 0 0, PySem.Value.int 3 0, PySem.Value.ref 71, PySem.Value.bool Bool.true, PySem.Value.int 181 0, PySem.Value.ref 72, PySem.Value.none, PySem.Value.ref 73, PySem.Value.ref 74, PySem.Value.ref 75, PySem.Value.int 272 0, PySem.Value.int 61 0, PySem.Value.str "/claim/cut.py" 273]), List.toArray []⟩
noncomputable def ob77 (P : Params) : Obj := ⟨PySem.Value.type "function", Option.none, .func ⟨"scientific_text", "scientific_text", (argsOf (topAt 10)), (PySem.FuncBody.stmts (bodyOf (topAt 10))), (scopeOf (topAt 10)), 3, [], PySem.Value.none, PySem.Value.none, PySem.Value.none, (PySem.Value.str "vectorcove.numtext" 216), Option.none, (PySem.Value.ref 76), PySem.Value.none, 0⟩, List.toArray []⟩
noncomputable def ob78 (P : Params) : Obj := ⟨PySem.Value.type "tuple", Option.none, PySem.Data.seq (List.toArray []) 0, List.toArray []⟩
noncomputable def ob79 (P : Params) : Obj := ⟨PySem.Value.none, Option.none, PySem.Data.fields (List.toArray []), List.toArray []⟩
noncomputable def ob80 (P : Params) : Obj := ⟨PySem.Value.type "tuple", Option.none, PySem.Data.seq (List.toArray [PySem.Value.str "x" 278, PySem.Value.str "places" 279, PySem.Value.str "n" 280, PySem.Value.str "text" 281]) 0, List.toArray []⟩
noncomputable def ob81 (P : Params) : Obj := ⟨PySem.Value.type "tuple", Option.none, PySem.Data.seq (List.toArray []) 0, List.toArray []⟩
noncomputable def ob82 (P : Params) : Obj := ⟨PySem.Value.none, Option.none, .func ⟨"fixed_text", "fixed_text", (argsOf (topAt 11)), (PySem.FuncBody.stmts (bodyOf (topAt 11))), (scopeOf (topAt 11)), 0, [], PySem.Value.none, PySem.Value.none, PySem.Value.none, PySem.Value.none, Option.none, PySem.Value.none, PySem.Value.none, 0⟩, List.toArray []⟩
noncomputable def ob83 (P : Params) : Obj := ⟨PySem.Value.type "code", Option.none, PySem.Data.fields (List.toArray [PySem.Value.str "fixed_text" 275, PySem.Value.str "fixed_text" 276, PySem.Value.str "/claim/cut.py" 277, PySem.Value.int 68 0, PySem.Value.int 2 0, PySem.Value.int 0 0, PySem.Value.int 0 0, PySem.Value.int 3 0, PySem.Value.ref 78, PySem.Value.bool Bool.true, PySem.Value.int 181 0, PySem.Value.ref 79, PySem.Value.none, PySem.Value.ref 80, PySem.Value.ref 81, PySem.Value.ref 82, PySem.Value.int 282 0, PySem.Value.int 68 0, PySem.Value.str "/claim/cut.py" 283]), List.toArray []⟩
noncomputable def ob84 (P : Params) : Obj := ⟨PySem.Value.type "function", Option.none, .func ⟨"fixed_text", "fixed_text", (argsOf (topAt 11)), (PySem.FuncBody.stmts (bodyOf (topAt 11))), (scopeOf (topAt 11)), 3, [], PySem.Value.none, PySem.Value.none, PySem.Value.none, (PySem.Value.str "vectorcove.numtext" 216), Option.none, (PySem.Value.ref 83), PySem.Value.none, 0⟩, List.toArray []⟩
noncomputable def ob85 (P : Params) : Obj := ⟨PySem.Value.type "tuple", Option.none, PySem.Data.seq (List.toArray []) 0, List.toArray []⟩
noncomputable def ob86 (P : Params) : Obj := ⟨PySem.Value.none, Option.none, PySem.Data.fields (List.toArray []), List.toArray []⟩
noncomputable def ob87 (P : Params) : Obj := ⟨PySem.Value.type "tuple", Option.none, PySem.Data.seq (List.toArray [PySem.Value.str "x" 288, PySem.Value.str "digits" 289, PySem.Value.str "side" 290, PySem.Value.str "text" 291, PySem.Value.str "e" 292, PySem.Value.str "count" 293, PySem.Value.str "left" 294]) 0, List.toArray []⟩
noncomputable def ob88 (P : Params) : Obj := ⟨PySem.Value.type "tuple", Option.none, PySem.Data.seq (List.toArray []) 0, List.toArray []⟩
noncomputable def ob89 (P : Params) : Obj := ⟨PySem.Value.none, Option.none, .func ⟨"measures", "measures", (argsOf (topAt 12)), (PySem.FuncBody.stmts (bodyOf (topAt 12))), (scopeOf (topAt 12)), 0, [], PySem.Value.none, PySem.Value.none, PySem.Value.none, PySem.Value.none, Option.none, PySem.Value.none, PySem.Value.none, 0⟩, List.toArray []⟩
noncomputable def ob90 (P : Params) : Obj := ⟨PySem.Value.type "code", Option.none, PySem.Data.fields (List.toArray [PySem.Value.str "measures" 285, PySem.Value.str "measures" 286, PySem.Value.str "/claim/cut.py" 287, PySem.Value.int 76 0, PySem.Value.int 2 0, PySem.Value.int 0 0, PySem.Value.int 0 0, PySem.Value.int 3 0, PySem.Value.ref 85, PySem.Value.bool Bool.true, PySem.Value.int 181 0, PySem.Value.ref 86, PySem.Value.none, PySem.Value.ref 87, PySem.Value.ref 88, PySem.Value.ref 89, PySem.Value.int 295 0, PySem.Value.int 76 0, PySem.Value.str "/claim/cut.py" 296]), List.toArray []⟩
noncomputable def ob91 (P : Params) : Obj := ⟨PySem.Value.type "function", Option.none, .func ⟨"measures", "measures", (argsOf (topAt 12)), (PySem.FuncBody.stmts (bodyOf (topAt 12))), (scopeOf (topAt 12)), 3, [], PySem.Value.none, PySem.Value.none, PySem.Value.none, (PySem.Value.str "vectorcove.numtext" 216), Option.none, (PySem.Value.ref 90), PySem.Value.none, 0⟩, List.toArray []⟩
noncomputable def ob92 (P : Params) : Obj := ⟨PySem.Value.type "tuple", Option.none, PySem.Data.seq (List.toArray []) 0, List.toArray []⟩
noncomputable def ob93 (P : Params) : Obj := ⟨PySem.Value.none, Option.none, PySem.Data.fields (List.toArray []), List.toArray []⟩
noncomputable def ob94 (P : Params) : Obj := ⟨PySem.Value.type "tuple", Option.none, PySem.Data.seq (List.toArray [PySem.Value.str "xs" 301, PySem.Value.str "digits" 302, PySem.Value.str "count" 303, PySem.Value.str "left" 304, PySem.Value.str "places" 305, PySem.Value.str "wide" 306, PySem.Value.str "minus" 307, PySem.Value.str "x" 308, PySem.Value.str "row" 309, PySem.Value.str "fixed_width" 310, PySem.Value.str "scientific_width" 311]) 0, List.toArray []⟩
noncomputable def ob95 (P : Params) : Obj := ⟨PySem.Value.type "tuple", Option.none, PySem.Data.seq (List.toArray []) 0, List.toArray []⟩
noncomputable def ob96 (P : Params) : Obj := ⟨PySem.Value.none, Option.none, .func ⟨"chosen_form", "chosen_form", (argsOf (topAt 13)), (PySem.FuncBody.stmts (bodyOf (topAt 13))), (scopeOf (topAt 13)), 0, [], PySem.Value.none, PySem.Value.none, PySem.Value.none, PySem.Value.none, Option.none, PySem.Value.none, PySem.Value.none, 0⟩, List.toArray []⟩
noncomputable def ob97 (P : Params) : Obj := ⟨PySem.Value.type "code", Option.none, PySem.Data.fields (List.toArray [PySem.Value.str "chosen_form" 298, PySem.Value.str "chosen_form" 299, PySem.Value.str "/claim/cut.py" 300, PySem.Value.int 83 0, PySem.Value.int 2 0, PySem.Value.int 0 0, PySem.Value.int 0 0, PySem.Value.int 3 0, PySem.Value.ref 92, PySem.Value.bool Bool.true, PySem.Value.int 181 0, PySem.Value.ref 93, PySem.Value.none, PySem.Value.ref 94, PySem.Value.ref 95, PySem.Value.ref 96, PySem.Value.int 312 0, PySem.Value.int 83 0, PySem.Value.str "/claim/cut.py" 313]), List.toArray []⟩
noncomputable def ob98 (P : Params) : Obj := ⟨PySem.Value.type "function", Option.none, .func ⟨"chosen_form", "chosen_form", (argsOf (topAt 13)), (PySem.FuncBody.stmts (bodyOf (topAt 13))), (scopeOf (topAt 13)), 3, [], PySem.Value.none, PySem.Value.none, PySem.Value.none, (PySem.Value.str "vectorcove.numtext" 216), Option.none, (PySem.Value.ref 97), PySem.Value.none, 0⟩, List.toArray []⟩
noncomputable def ob99 (P : Params) : Obj := ⟨PySem.Value.type "tuple", Option.none, PySem.Data.seq (List.toArray []) 0, List.toArray []⟩
noncomputable def ob100 (P : Params) : Obj := ⟨PySem.Value.none, Option.none, PySem.Data.fields (List.toArray []), List.toArray []⟩
noncomputable def ob101 (P : Params) : Obj := ⟨PySem.Value.type "tuple", Option.none, PySem.Data.seq (List.toArray [PySem.Value.str "x" 318, PySem.Value.str "form" 319, PySem.Value.str "text" 320]) 0, List.toArray []⟩
noncomputable def ob102 (P : Params) : Obj := ⟨PySem.Value.type "tuple", Option.none, PySem.Data.seq (List.toArray []) 0, List.toArray []⟩
noncomputable def ob103 (P : Params) : Obj := ⟨PySem.Value.none, Option.none, .func ⟨"formed", "formed", (argsOf (topAt 14)), (PySem.FuncBody.stmts (bodyOf (topAt 14))), (scopeOf (topAt 14)), 0, [], PySem.Value.none, PySem.Value.none, PySem.Value.none, PySem.Value.none, Option.none, PySem.Value.none, PySem.Value.none, 0⟩, List.toArray []⟩
noncomputable def ob104 (P : Params) : Obj := ⟨PySem.Value.type "code", Option.none, PySem.Data.fields (List.toArray [PySem.Value.str "formed" 315, PySem.Value.str "formed" 316, PySem.Value.str "/claim/cut.py" 317, PySem.Value.int 103 0, PySem.Value.int 2 0, PySem.Value.int 0 0, PySem.Value.int 0 0, PySem.Value.int 3 0, PySem.Value.ref 99, PySem.Value.bool Bool.true, PySem.Value.int 181 0, PySem.Value.ref 100, PySem.Value.none, PySem.Value.ref 101, PySem.Value.ref 102, PySem.Value.ref 103, PySem.Value.int 321 0, PySem.Value.int 103 0, PySem.Value.str "/claim/cut.py" 322]), List.toArray []⟩
noncomputable def ob105 (P : Params) : Obj := ⟨PySem.Value.type "function", Option.none, .func ⟨"formed", "formed", (argsOf (topAt 14)), (PySem.FuncBody.stmts (bodyOf (topAt 14))), (scopeOf (topAt 14)), 3, [], PySem.Value.none, PySem.Value.none, PySem.Value.none, (PySem.Value.str "vectorcove.numtext" 216), Option.none, (PySem.Value.ref 104), PySem.Value.none, 0⟩, List.toArray []⟩
noncomputable def ob106 (P : Params) : Obj := ⟨PySem.Value.type "tuple", Option.none, PySem.Data.seq (List.toArray []) 0, List.toArray []⟩
noncomputable def ob107 (P : Params) : Obj := ⟨PySem.Value.none, Option.none, PySem.Data.fields (List.toArray []), List.toArray []⟩
noncomputable def ob108 (P : Params) : Obj := ⟨PySem.Value.none, Option.none, .func ⟨"common_texts", "common_texts", (argsOf (topAt 15)), (PySem.FuncBody.stmts (bodyOf (topAt 15))), (scopeOf (topAt 15)), 0, [], PySem.Value.none, PySem.Value.none, PySem.Value.none, PySem.Value.none, Option.none, PySem.Value.none, PySem.Value.none, 0⟩, List.toArray []⟩
noncomputable def ob109 (P : Params) : Obj := ⟨PySem.Value.type "code", Option.none, PySem.Data.fields (List.toArray [PySem.Value.str "common_texts" 324, PySem.Value.str "common_texts" 325, PySem.Value.str "/claim/cut.py" 326, PySem.Value.int 110 0, PySem.Value.int 2 0, PySem.Value.int 0 0, PySem.Value.int 0 0, PySem.Value.int 3 0, PySem.Value.ref 106, PySem.Value.bool Bool.true, PySem.Value.int 181 0, PySem.Value.ref 107, PySem.Value.none, PySem.Value.none, PySem.Value.none, PySem.Value.ref 108, PySem.Value.int 327 0, PySem.Value.int 110 0, PySem.Value.str "/claim/cut.py" 328]), List.toArray []⟩
noncomputable def ob110 (P : Params) : Obj := ⟨PySem.Value.type "function", Option.none, .func ⟨"common_texts", "common_texts", (argsOf (topAt 15)), (PySem.FuncBody.stmts (bodyOf (topAt 15))), (scopeOf (topAt 15)), 3, [], PySem.Value.none, PySem.Value.none, PySem.Value.none, (PySem.Value.str "vectorcove.numtext" 216), Option.none, (PySem.Value.ref 109), PySem.Value.none, 0⟩, List.toArray []⟩
noncomputable def ob111 (P : Params) : Obj := ⟨PySem.Value.type "tuple", Option.none, PySem.Data.seq (List.toArray [PySem.Value.int 7 330]) 0, List.toArray []⟩
noncomputable def ob112 (P : Params) : Obj := ⟨PySem.Value.type "tuple", Option.none, PySem.Data.seq (List.toArray []) 0, List.toArray []⟩
noncomputable def ob113 (P : Params) : Obj := ⟨PySem.Value.none, Option.none, PySem.Data.fields (List.toArray []), List.toArray []⟩
noncomputable def ob114 (P : Params) : Obj := ⟨PySem.Value.type "tuple", Option.none, PySem.Data.seq (List.toArray [PySem.Value.str "x" 334, PySem.Value.str "digits" 335]) 0, List.toArray []⟩
noncomputable def ob115 (P : Params) : Obj := ⟨PySem.Value.type "tuple", Option.none, PySem.Data.seq (List.toArray []) 0, List.toArray []⟩
noncomputable def ob116 (P : Params) : Obj := ⟨PySem.Value.none, Option.none, .func ⟨"number_text", "number_text", (argsOf (topAt 16)), (PySem.FuncBody.stmts (bodyOf (topAt 16))), (scopeOf (topAt 16)), 0, [], PySem.Value.none, PySem.Value.none, PySem.Value.none, PySem.Value.none, Option.none, PySem.Value.none, PySem.Value.none, 0⟩, List.toArray []⟩
noncomputable def ob117 (P : Params) : Obj := ⟨PySem.Value.type "code", Option.none, PySem.Data.fields (List.toArray [PySem.Value.str "number_text" 331, PySem.Value.str "number_text" 332, PySem.Value.str "/claim/cut.py" 333, PySem.Value.int 114 0, PySem.Value.int 2 0, PySem.Value.int 0 0, PySem.Value.int 0 0, PySem.Value.int 3 0, PySem.Value.ref 112, PySem.Value.bool Bool.true, PySem.Value.int 181 0, PySem.Value.ref 113, PySem.Value.none, PySem.Value.ref 114, PySem.Value.ref 115, PySem.Value.ref 116, PySem.Value.int 336 0, PySem.Value.int 114 0, PySem.Value.str "/claim/cut.py" 337]), List.toArray []⟩
noncomputable def ob118 (P : Params) : Obj := ⟨PySem.Value.type "function", Option.none, .func ⟨"number_text", "number_text", (argsOf (topAt 16)), (PySem.FuncBody.stmts (bodyOf (topAt 16))), (scopeOf (topAt 16)), 3, [], (PySem.Value.ref 111), PySem.Value.none, PySem.Value.none, (PySem.Value.str "vectorcove.numtext" 216), Option.none, (PySem.Value.ref 117), PySem.Value.none, 0⟩, List.toArray []⟩
noncomputable def ob119 (P : Params) : Obj := ⟨PySem.Value.type "tuple", Option.none, PySem.Data.seq (List.toArray []) 0, List.toArray []⟩
noncomputable def ob120 (P : Params) : Obj := ⟨PySem.Value.type "builtin_function_or_method", Option.none, PySem.Data.fields (List.toArray [PySem.Value.builtin "type.__prepare__", PySem.Value.type "type"]), List.toArray []⟩
noncomputable def ob121 (P : Params) : Obj := ⟨PySem.Value.type "dict", Option.none, PySem.Data.dict (List.toArray [PySem.DictEntry.mk (PySem.PyData.keyHash P "__module__") (PySem.Value.str "__module__" 348) (PySem.Value.str "vectorcove.values" 339), PySem.DictEntry.mk (PySem.PyData.keyHash P "__qualname__") (PySem.Value.str "__qualname__" 350) (PySem.Value.str "Null" 349), PySem.DictEntry.mk (PySem.PyData.keyHash P "__firstlineno__") (PySem.Value.str "__firstlineno__" 352) (PySem.Value.int 117 351), PySem.DictEntry.mk (PySem.PyData.keyHash P "__init__") (PySem.Value.str "__init__" 359) (PySem.Value.ref 132), PySem.DictEntry.mk (PySem.PyData.keyHash P "__static_attributes__") (PySem.Value.str "__static_attributes__" 362) (PySem.Value.ref 133)]) 5, List.toArray []⟩
noncomputable def ob122 (P : Params) : Obj := ⟨PySem.Value.type "tuple", Option.none, PySem.Data.seq (List.toArray []) 0, List.toArray []⟩
noncomputable def ob123 (P : Params) : Obj := ⟨PySem.Value.none, Option.none, PySem.Data.fields (List.toArray [PySem.Value.int 119 0, PySem.Value.int 4 0, PySem.Value.ref 131]), List.toArray []⟩
noncomputable def ob124 (P : Params) : Obj := ⟨PySem.Value.type "code", Option.none, PySem.Data.fields (List.toArray [PySem.Value.str "Null" 343, PySem.Value.str "Null" 344, PySem.Value.str "/claim/cut.py" 345, PySem.Value.int 117 0, PySem.Value.int 0 0, PySem.Value.int 0 0, PySem.Value.int 0 0, PySem.Value.int 0 0, PySem.Value.ref 122, PySem.Value.bool Bool.false, PySem.Value.int 181 0, PySem.Value.ref 123, PySem.Value.none, PySem.Value.none, PySem.Value.none, PySem.Value.none, PySem.Value.int 346 0, PySem.Value.int 117 0, PySem.Value.str "/claim/cut.py" 347]), List.toArray []⟩
noncomputable def ob125 (P : Params) : Obj := ⟨PySem.Value.type "frame", Option.none, PySem.Data.plain, List.toArray [Option.some (PySem.Value.ref 124), Option.some (PySem.Value.ref 3), Option.some (PySem.Value.ref 121), Option.none, Option.some (PySem.Value.str "vectorcove.values" 339), Option.none, Option.some (PySem.Value.ref 0)]⟩
noncomputable def ob126 (P : Params) : Obj := ⟨PySem.Value.type "tuple", Option.none, PySem.Data.seq (List.toArray []) 0, List.toArray []⟩
noncomputable def ob127 (P : Params) : Obj := ⟨PySem.Value.none, Option.none, PySem.Data.fields (List.toArray []), List.toArray []⟩
noncomputable def ob128 (P : Params) : Obj := ⟨PySem.Value.type "tuple", Option.none, PySem.Data.seq (List.toArray [PySem.Value.str "self" 356]) 0, List.toArray []⟩
noncomputable def ob129 (P : Params) : Obj := ⟨PySem.Value.type "tuple", Option.none, PySem.Data.seq (List.toArray []) 0, List.toArray []⟩
noncomputable def ob130 (P : Params) : Obj := ⟨PySem.Value.none, Option.none, .func ⟨"__init__", "Null.__init__", (argsOf (inAt 18 0)), (PySem.FuncBody.stmts (bodyOf (inAt 18 0))), (scopeOf (inAt 18 0)), 0, [], PySem.Value.none, PySem.Value.none, PySem.Value.none, PySem.Value.none, Option.none, PySem.Value.none, PySem.Value.none, 0⟩, List.toArray []⟩
noncomputable def ob131 (P : Params) : Obj := ⟨PySem.Value.type "code", Option.none, PySem.Data.fields (List.toArray [PySem.Value.str "__init__" 353, PySem.Value.str "Null.__init__" 354, PySem.Value.str "/claim/cut.py" 355, PySem.Value.int 119 0, PySem.Value.int 1 0, PySem.Value.int 0 0, PySem.Value.int 0 0, PySem.Value.int 3 0, PySem.Value.ref 126, PySem.Value.bool Bool.true, PySem.Value.int 181 0, PySem.Value.ref 127, PySem.Value.none, PySem.Value.ref 128, PySem.Value.ref 129, PySem.Value.ref 130, PySem.Value.int 357 0, PySem.Value.int 119 0, PySem.Value.str "/claim/cut.py" 358]), List.toArray []⟩
noncomputable def ob132 (P : Params) : Obj := ⟨PySem.Value.type "function", Option.none, .func ⟨"__init__", "Null.__init__", (argsOf (inAt 18 0)), (PySem.FuncBody.stmts (bodyOf (inAt 18 0))), (scopeOf (inAt 18 0)), 3, [], PySem.Value.none, PySem.Value.none, PySem.Value.none, (PySem.Value.str "vectorcove.values" 339), Option.none, (PySem.Value.ref 131), PySem.Value.none, 0⟩, List.toArray []⟩
noncomputable def ob133 (P : Params) : Obj := ⟨PySem.Value.type "tuple", Option.none, PySem.Data.seq (List.toArray [PySem.Value.str "attrs" 360, PySem.Value.str "kind" 361]) 0, List.toArray []⟩
noncomputable def ob134 (P : Params) : Obj := ⟨PySem.Value.type "dict", Option.none, PySem.Data.dict (List.toArray [PySem.DictEntry.mk (PySem.PyData.keyHash P "__module__") (PySem.Value.str "__module__" 348) (PySem.Value.str "vectorcove.values" 339), PySem.DictEntry.mk (PySem.PyData.keyHash P "__firstlineno__") (PySem.Value.str "__firstlineno__" 352) (PySem.Value.int 117 351), PySem.DictEntry.mk (PySem.PyData.keyHash P "__init__") (PySem.Value.str "__init__" 359) (PySem.Value.ref 132), PySem.DictEntry.mk (PySem.PyData.keyHash P "__static_attributes__") (PySem.Value.str "__static_attributes__" 362) (PySem.Value.ref 133), PySem.DictEntry.mk (PySem.PyData.keyHash P "__dict__") (PySem.Value.str "__dict__" 364) (PySem.Value.ref 136), PySem.DictEntry.mk (PySem.PyData.keyHash P "__weakref__") (PySem.Value.str "__weakref__" 366) (PySem.Value.ref 137), PySem.DictEntry.mk (PySem.PyData.keyHash P "__doc__") (PySem.Value.str "__doc__" 367) PySem.Value.none]) 4, List.toArray []⟩
noncomputable def ob135 (P : Params) : Obj := ⟨PySem.Value.type "type", Option.none, PySem.Data.cls (PySem.ClassData.mk "Null" [PySem.Value.type "object"] [PySem.Value.ref 135, PySem.Value.type "object"] 134 "Null" Bool.true [] [] Bool.false Option.none Bool.false), List.toArray [Option.none, Option.none, Option.some (PySem.Value.str "Null" 341), Option.some (PySem.Value.str "Null" 349), Option.some (PySem.Value.builtin "object.__new__"), Option.some (PySem.Value.bool Bool.true)]⟩
noncomputable def ob136 (P : Params) : Obj := ⟨PySem.Value.type "getset_descriptor", Option.none, PySem.Data.fields (List.toArray [PySem.Value.str "__dict__" 363, PySem.Value.ref 135, PySem.Value.builtin "function.__dict__", PySem.Value.builtin "function.__dict__#set"]), List.toArray []⟩
noncomputable def ob137 (P : Params) : Obj := ⟨PySem.Value.type "getset_descriptor", Option.none, PySem.Data.fields (List.toArray [PySem.Value.str "__weakref__" 365, PySem.Value.ref 135, PySem.Value.builtin "ExceptionGroup.__weakref__", PySem.Value.none]), List.toArray []⟩
noncomputable def ob138 (P : Params) : Obj := ⟨PySem.Value.type "super", Option.none, PySem.Data.fields (List.toArray [PySem.Value.ref 135, PySem.Value.ref 135, PySem.Value.ref 135]), List.toArray []⟩
noncomputable def ob139 (P : Params) : Obj := ⟨PySem.Value.type "builtin_function_or_method", Option.none, PySem.Data.fields (List.toArray [PySem.Value.builtin "object.__init_subclass__", PySem.Value.ref 135]), List.toArray []⟩
noncomputable def ob140 (P : Params) : Obj := ⟨PySem.Value.type "tuple", Option.none, PySem.Data.seq (List.toArray []) 0, List.toArray []⟩
noncomputable def ob141 (P : Params) : Obj := ⟨PySem.Value.type "builtin_function_or_method", Option.none, PySem.Data.fields (List.toArray [PySem.Value.builtin "type.__prepare__", PySem.Value.type "type"]), List.toArray []⟩
noncomputable def ob142 (P : Params) : Obj := ⟨PySem.Value.type "dict", Option.none, PySem.Data.dict (List.toArray [PySem.DictEntry.mk (PySem.PyData.keyHash P "__module__") (PySem.Value.str "__module__" 377) (PySem.Value.str "vectorcove.values" 339), PySem.DictEntry.mk (PySem.PyData.keyHash P "__qualname__") (PySem.Value.str "__qualname__" 379) (PySem.Value.str "Vector" 378), PySem.DictEntry.mk (PySem.PyData.keyHash P "__firstlineno__") (PySem.Value.str "__firstlineno__" 381) (PySem.Value.int 122 380), PySem.DictEntry.mk (PySem.PyData.keyHash P "__init__") (PySem.Value.str "__init__" 391) (PySem.Value.ref 154), PySem.DictEntry.mk (PySem.PyData.keyHash P "copy") (PySem.Value.str "copy" 398) (PySem.Value.ref 161), PySem.DictEntry.mk (PySem.PyData.keyHash P "__static_attributes__") (PySem.Value.str "__static_attributes__" 404) (PySem.Value.ref 162)]) 6, List.toArray []⟩
noncomputable def ob143 (P : Params) : Obj := ⟨PySem.Value.type "tuple", Option.none, PySem.Data.seq (List.toArray []) 0, List.toArray []⟩
noncomputable def ob144 (P : Params) : Obj := ⟨PySem.Value.none, Option.none, PySem.Data.fields (List.toArray [PySem.Value.int 124 0, PySem.Value.int 4 0, PySem.Value.ref 153, PySem.Value.int 131 0, PySem.Value.int 4 0, PySem.Value.ref 160]), List.toArray []⟩
noncomputable def ob145 (P : Params) : Obj := ⟨PySem.Value.type "code", Option.none, PySem.Data.fields (List.toArray [PySem.Value.str "Vector" 372, PySem.Value.str "Vector" 373, PySem.Value.str "/claim/cut.py" 374, PySem.Value.int 122 0, PySem.Value.int 0 0, PySem.Value.int 0 0, PySem.Value.int 0 0, PySem.Value.int 0 0, PySem.Value.ref 143, PySem.Value.bool Bool.false, PySem.Value.int 181 0, PySem.Value.ref 144, PySem.Value.none, PySem.Value.none, PySem.Value.none, PySem.Value.none, PySem.Value.int 375 0, PySem.Value.int 122 0, PySem.Value.str "/claim/cut.py" 376]), List.toArray []⟩
noncomputable def ob146 (P : Params) : Obj := ⟨PySem.Value.type "frame", Option.none, PySem.Data.plain, List.toArray [Option.some (PySem.Value.ref 145), Option.some (PySem.Value.ref 3), Option.some (PySem.Value.ref 142), Option.none, Option.some (PySem.Value.str "vectorcove.values" 339), Option.none, Option.some (PySem.Value.ref 0)]⟩
noncomputable def ob147 (P : Params) : Obj := ⟨PySem.Value.type "tuple", Option.none, PySem.Data.seq (List.toArray [PySem.Value.none]) 0, List.toArray []⟩
noncomputable def ob148 (P : Params) : Obj := ⟨PySem.Value.type "tuple", Option.none, PySem.Data.seq (List.toArray []) 0, List.toArray []⟩
noncomputable def ob149 (P : Params) : Obj := ⟨PySem.Value.none, Option.none, PySem.Data.fields (List.toArray []), List.toArray []⟩
noncomputable def ob150 (P : Params) : Obj := ⟨PySem.Value.type "tuple", Option.none, PySem.Data.seq (List.toArray [PySem.Value.str "self" 385, PySem.Value.str "kind" 386, PySem.Value.str "items" 387, PySem.Value.str "attrs" 388]) 0, List.toArray []⟩
noncomputable def ob151 (P : Params) : Obj := ⟨PySem.Value.type "tuple", Option.none, PySem.Data.seq (List.toArray []) 0, List.toArray []⟩
noncomputable def ob152 (P : Params) : Obj := ⟨PySem.Value.none, Option.none, .func ⟨"__init__", "Vector.__init__", (argsOf (inAt 19 0)), (PySem.FuncBody.stmts (bodyOf (inAt 19 0))), (scopeOf (inAt 19 0)), 0, [], PySem.Value.none, PySem.Value.none, PySem.Value.none, PySem.Value.none, Option.none, PySem.Value.none, PySem.Value.none, 0⟩, List.toArray []⟩
noncomputable def ob153 (P : Params) : Obj := ⟨PySem.Value.type "code", Option.none, PySem.Data.fields (List.toArray [PySem.Value.str "__init__" 382, PySem.Value.str "Vector.__init__" 383, PySem.Value.str "/claim/cut.py" 384, PySem.Value.int 124 0, PySem.Value.int 4 0, PySem.Value.int 0 0, PySem.Value.int 0 0, PySem.Value.int 3 0, PySem.Value.ref 148, PySem.Value.bool Bool.true, PySem.Value.int 181 0, PySem.Value.ref 149, PySem.Value.none, PySem.Value.ref 150, PySem.Value.ref 151, PySem.Value.ref 152, PySem.Value.int 389 0, PySem.Value.int 124 0, PySem.Value.str "/claim/cut.py" 390]), List.toArray []⟩
noncomputable def ob154 (P : Params) : Obj := ⟨PySem.Value.type "function", Option.none, .func ⟨"__init__", "Vector.__init__", (argsOf (inAt 19 0)), (PySem.FuncBody.stmts (bodyOf (inAt 19 0))), (scopeOf (inAt 19 0)), 3, [], (PySem.Value.ref 147), PySem.Value.none, PySem.Value.none, (PySem.Value.str "vectorcove.values" 339), Option.none, (PySem.Value.ref 153), PySem.Value.none, 0⟩, List.toArray []⟩
noncomputable def ob155 (P : Params) : Obj := ⟨PySem.Value.type "tuple", Option.none, PySem.Data.seq (List.toArray []) 0, List.toArray []⟩
noncomputable def ob156 (P : Params) : Obj := ⟨PySem.Value.none, Option.none, PySem.Data.fields (List.toArray []), List.toArray []⟩
noncomputable def ob157 (P : Params) : Obj := ⟨PySem.Value.type "tuple", Option.none, PySem.Data.seq (List.toArray [PySem.Value.str "self" 395]) 0, List.toArray []⟩
noncomputable def ob158 (P : Params) : Obj := ⟨PySem.Value.type "tuple", Option.none, PySem.Data.seq (List.toArray []) 0, List.toArray []⟩
noncomputable def ob159 (P : Params) : Obj := ⟨PySem.Value.none, Option.none, .func ⟨"copy", "Vector.copy", (argsOf (inAt 19 1)), (PySem.FuncBody.stmts (bodyOf (inAt 19 1))), (scopeOf (inAt 19 1)), 0, [], PySem.Value.none, PySem.Value.none, PySem.Value.none, PySem.Value.none, Option.none, PySem.Value.none, PySem.Value.none, 0⟩, List.toArray []⟩
noncomputable def ob160 (P : Params) : Obj := ⟨PySem.Value.type "code", Option.none, PySem.Data.fields (List.toArray [PySem.Value.str "copy" 392, PySem.Value.str "Vector.copy" 393, PySem.Value.str "/claim/cut.py" 394, PySem.Value.int 131 0, PySem.Value.int 1 0, PySem.Value.int 0 0, PySem.Value.int 0 0, PySem.Value.int 3 0, PySem.Value.ref 155, PySem.Value.bool Bool.true, PySem.Value.int 181 0, PySem.Value.ref 156, PySem.Value.none, PySem.Value.ref 157, PySem.Value.ref 158, PySem.Value.ref 159, PySem.Value.int 396 0, PySem.Value.int 131 0, PySem.Value.str "/claim/cut.py" 397]), List.toArray []⟩
noncomputable def ob161 (P : Params) : Obj := ⟨PySem.Value.type "function", Option.none, .func ⟨"copy", "Vector.copy", (argsOf (inAt 19 1)), (PySem.FuncBody.stmts (bodyOf (inAt 19 1))), (scopeOf (inAt 19 1)), 3, [], PySem.Value.none, PySem.Value.none, PySem.Value.none, (PySem.Value.str "vectorcove.values" 339), Option.none, (PySem.Value.ref 160), PySem.Value.none, 0⟩, List.toArray []⟩
noncomputable def ob162 (P : Params) : Obj := ⟨PySem.Value.type "tuple", Option.none, PySem.Data.seq (List.toArray [PySem.Value.str "attrs" 399, PySem.Value.str "items" 400, PySem.Value.str "kind" 401, PySem.Value.str "loose" 402, PySem.Value.str "shared" 403]) 0, List.toArray []⟩
noncomputable def ob163 (P : Params) : Obj := ⟨PySem.Value.type "dict", Option.none, PySem.Data.dict (List.toArray [PySem.DictEntry.mk (PySem.PyData.keyHash P "__module__") (PySem.Value.str "__module__" 377) (PySem.Value.str "vectorcove.values" 339), PySem.DictEntry.mk (PySem.PyData.keyHash P "__firstlineno__") (PySem.Value.str "__firstlineno__" 381) (PySem.Value.int 122 380), PySem.DictEntry.mk (PySem.PyData.keyHash P "__init__") (PySem.Value.str "__init__" 391) (PySem.Value.ref 154), PySem.DictEntry.mk (PySem.PyData.keyHash P "copy") (PySem.Value.str "copy" 398) (PySem.Value.ref 161), PySem.DictEntry.mk (PySem.PyData.keyHash P "__static_attributes__") (PySem.Value.str "__static_attributes__" 404) (PySem.Value.ref 162), PySem.DictEntry.mk (PySem.PyData.keyHash P "__dict__") (PySem.Value.str "__dict__" 406) (PySem.Value.ref 165), PySem.DictEntry.mk (PySem.PyData.keyHash P "__weakref__") (PySem.Value.str "__weakref__" 408) (PySem.Value.ref 166), PySem.DictEntry.mk (PySem.PyData.keyHash P "__doc__") (PySem.Value.str "__doc__" 409) PySem.Value.none]) 4, List.toArray []⟩
noncomputable def ob164 (P : Params) : Obj := ⟨PySem.Value.type "type", Option.none, PySem.Data.cls (PySem.ClassData.mk "Vector" [PySem.Value.type "object"] [PySem.Value.ref 164, PySem.Value.type "object"] 163 "Vector" Bool.true [] [] Bool.false Option.none Bool.false), List.toArray [Option.none, Option.none, Option.some (PySem.Value.str "Vector" 370), Option.some (PySem.Value.str "Vector" 378), Option.some (PySem.Value.builtin "object.__new__"), Option.some (PySem.Value.bool Bool.true)]⟩
noncomputable def ob165 (P : Params) : Obj := ⟨PySem.Value.type "getset_descriptor", Option.none, PySem.Data.fields (List.toArray [PySem.Value.str "__dict__" 405, PySem.Value.ref 164, PySem.Value.builtin "function.__dict__", PySem.Value.builtin "function.__dict__#set"]), List.toArray []⟩
noncomputable def ob166 (P : Params) : Obj := ⟨PySem.Value.type "getset_descriptor", Option.none, PySem.Data.fields (List.toArray [PySem.Value.str "__weakref__" 407, PySem.Value.ref 164, PySem.Value.builtin "ExceptionGroup.__weakref__", PySem.Value.none]), List.toArray []⟩
noncomputable def ob167 (P : Params) : Obj := ⟨PySem.Value.type "super", Option.none, PySem.Data.fields (List.toArray [PySem.Value.ref 164, PySem.Value.ref 164, PySem.Value.ref 164]), List.toArray []⟩
noncomputable def ob168 (P : Params) : Obj := ⟨PySem.Value.type "builtin_function_or_method", Option.none, PySem.Data.fields (List.toArray [PySem.Value.builtin "object.__init_subclass__", PySem.Value.ref 164]), List.toArray []⟩
noncomputable def ob169 (P : Params) : Obj := ⟨PySem.Value.type "tuple", Option.none, PySem.Data.seq (List.toArray []) 0, List.toArray []⟩
noncomputable def ob170 (P : Params) : Obj := ⟨PySem.Value.none, Option.none, PySem.Data.fields (List.toArray []), List.toArray []⟩
noncomputable def ob171 (P : Params) : Obj := ⟨PySem.Value.type "tuple", Option.none, PySem.Data.seq (List.toArray [PySem.Value.str "items" 415]) 0, List.toArray []⟩
noncomputable def ob172 (P : Params) : Obj := ⟨PySem.Value.type "tuple", Option.none, PySem.Data.seq (List.toArray []) 0, List.toArray []⟩
noncomputable def ob173 (P : Params) : Obj := ⟨PySem.Value.none, Option.none, .func ⟨"integer", "integer", (argsOf (topAt 20)), (PySem.FuncBody.stmts (bodyOf (topAt 20))), (scopeOf (topAt 20)), 0, [], PySem.Value.none, PySem.Value.none, PySem.Value.none, PySem.Value.none, Option.none, PySem.Value.none, PySem.Value.none, 0⟩, List.toArray []⟩
noncomputable def ob174 (P : Params) : Obj := ⟨PySem.Value.type "code", Option.none, PySem.Data.fields (List.toArray [PySem.Value.str "integer" 412, PySem.Value.str "integer" 413, PySem.Value.str "/claim/cut.py" 414, PySem.Value.int 133 0, PySem.Value.int 1 0, PySem.Value.int 0 0, PySem.Value.int 0 0, PySem.Value.int 3 0, PySem.Value.ref 169, PySem.Value.bool Bool.true, PySem.Value.int 181 0, PySem.Value.ref 170, PySem.Value.none, PySem.Value.ref 171, PySem.Value.ref 172, PySem.Value.ref 173, PySem.Value.int 416 0, PySem.Value.int 133 0, PySem.Value.str "/claim/cut.py" 417]), List.toArray []⟩
noncomputable def ob175 (P : Params) : Obj := ⟨PySem.Value.type "function", Option.none, .func ⟨"integer", "integer", (argsOf (topAt 20)), (PySem.FuncBody.stmts (bodyOf (topAt 20))), (scopeOf (topAt 20)), 3, [], PySem.Value.none, PySem.Value.none, PySem.Value.none, (PySem.Value.str "vectorcove.values" 339), Option.none, (PySem.Value.ref 174), PySem.Value.none, 0⟩, List.toArray []⟩
noncomputable def ob176 (P : Params) : Obj := ⟨PySem.Value.type "tuple", Option.none, PySem.Data.seq (List.toArray []) 0, List.toArray []⟩
noncomputable def ob177 (P : Params) : Obj := ⟨PySem.Value.none, Option.none, PySem.Data.fields (List.toArray []), List.toArray []⟩
noncomputable def ob178 (P : Params) : Obj := ⟨PySem.Value.type "tuple", Option.none, PySem.Data.seq (List.toArray [PySem.Value.str "items" 422]) 0, List.toArray []⟩
noncomputable def ob179 (P : Params) : Obj := ⟨PySem.Value.type "tuple", Option.none, PySem.Data.seq (List.toArray []) 0, List.toArray []⟩
noncomputable def ob180 (P : Params) : Obj := ⟨PySem.Value.none, Option.none, .func ⟨"character", "character", (argsOf (topAt 21)), (PySem.FuncBody.stmts (bodyOf (topAt 21))), (scopeOf (topAt 21)), 0, [], PySem.Value.none, PySem.Value.none, PySem.Value.none, PySem.Value.none, Option.none, PySem.Value.none, PySem.Value.none, 0⟩, List.toArray []⟩
noncomputable def ob181 (P : Params) : Obj := ⟨PySem.Value.type "code", Option.none, PySem.Data.fields (List.toArray [PySem.Value.str "character" 419, PySem.Value.str "character" 420, PySem.Value.str "/claim/cut.py" 421, PySem.Value.int 135 0, PySem.Value.int 1 0, PySem.Value.int 0 0, PySem.Value.int 0 0, PySem.Value.int 3 0, PySem.Value.ref 176, PySem.Value.bool Bool.true, PySem.Value.int 181 0, PySem.Value.ref 177, PySem.Value.none, PySem.Value.ref 178, PySem.Value.ref 179, PySem.Value.ref 180, PySem.Value.int 423 0, PySem.Value.int 135 0, PySem.Value.str "/claim/cut.py" 424]), List.toArray []⟩
noncomputable def ob182 (P : Params) : Obj := ⟨PySem.Value.type "function", Option.none, .func ⟨"character", "character", (argsOf (topAt 21)), (PySem.FuncBody.stmts (bodyOf (topAt 21))), (scopeOf (topAt 21)), 3, [], PySem.Value.none, PySem.Value.none, PySem.Value.none, (PySem.Value.str "vectorcove.values" 339), Option.none, (PySem.Value.ref 181), PySem.Value.none, 0⟩, List.toArray []⟩
noncomputable def ob183 (P : Params) : Obj := ⟨PySem.Value.type "tuple", Option.none, PySem.Data.seq (List.toArray []) 0, List.toArray []⟩
noncomputable def ob184 (P : Params) : Obj := ⟨PySem.Value.none, Option.none, PySem.Data.fields (List.toArray []), List.toArray []⟩
noncomputable def ob185 (P : Params) : Obj := ⟨PySem.Value.type "tuple", Option.none, PySem.Data.seq (List.toArray [PySem.Value.str "v" 429]) 0, List.toArray []⟩
noncomputable def ob186 (P : Params) : Obj := ⟨PySem.Value.type "tuple", Option.none, PySem.Data.seq (List.toArray []) 0, List.toArray []⟩
noncomputable def ob187 (P : Params) : Obj := ⟨PySem.Value.none, Option.none, .func ⟨"is_atomic", "is_atomic", (argsOf (topAt 22)), (PySem.FuncBody.stmts (bodyOf (topAt 22))), (scopeOf (topAt 22)), 0, [], PySem.Value.none, PySem.Value.none, PySem.Value.none, PySem.Value.none, Option.none, PySem.Value.none, PySem.Value.none, 0⟩, List.toArray []⟩
noncomputable def ob188 (P : Params) : Obj := ⟨PySem.Value.type "code", Option.none, PySem.Data.fields (List.toArray [PySem.Value.str "is_atomic" 426, PySem.Value.str "is_atomic" 427, PySem.Value.str "/claim/cut.py" 428, PySem.Value.int 137 0, PySem.Value.int 1 0, PySem.Value.int 0 0, PySem.Value.int 0 0, PySem.Value.int 3 0, PySem.Value.ref 183, PySem.Value.bool Bool.true, PySem.Value.int 181 0, PySem.Value.ref 184, PySem.Value.none, PySem.Value.ref 185, PySem.Value.ref 186, PySem.Value.ref 187, PySem.Value.int 430 0, PySem.Value.int 137 0, PySem.Value.str "/claim/cut.py" 431]), List.toArray []⟩
noncomputable def ob189 (P : Params) : Obj := ⟨PySem.Value.type "function", Option.none, .func ⟨"is_atomic", "is_atomic", (argsOf (topAt 22)), (PySem.FuncBody.stmts (bodyOf (topAt 22))), (scopeOf (topAt 22)), 3, [], PySem.Value.none, PySem.Value.none, PySem.Value.none, (PySem.Value.str "vectorcove.values" 339), Option.none, (PySem.Value.ref 188), PySem.Value.none, 0⟩, List.toArray []⟩
noncomputable def ob190 (P : Params) : Obj := ⟨PySem.Value.type "tuple", Option.none, PySem.Data.seq (List.toArray []) 0, List.toArray []⟩
noncomputable def ob191 (P : Params) : Obj := ⟨PySem.Value.none, Option.none, PySem.Data.fields (List.toArray []), List.toArray []⟩
noncomputable def ob192 (P : Params) : Obj := ⟨PySem.Value.type "tuple", Option.none, PySem.Data.seq (List.toArray [PySem.Value.str "v" 436]) 0, List.toArray []⟩
noncomputable def ob193 (P : Params) : Obj := ⟨PySem.Value.type "tuple", Option.none, PySem.Data.seq (List.toArray []) 0, List.toArray []⟩
noncomputable def ob194 (P : Params) : Obj := ⟨PySem.Value.none, Option.none, .func ⟨"share", "share", (argsOf (topAt 23)), (PySem.FuncBody.stmts (bodyOf (topAt 23))), (scopeOf (topAt 23)), 0, [], PySem.Value.none, PySem.Value.none, PySem.Value.none, PySem.Value.none, Option.none, PySem.Value.none, PySem.Value.none, 0⟩, List.toArray []⟩
noncomputable def ob195 (P : Params) : Obj := ⟨PySem.Value.type "code", Option.none, PySem.Data.fields (List.toArray [PySem.Value.str "share" 433, PySem.Value.str "share" 434, PySem.Value.str "/claim/cut.py" 435, PySem.Value.int 139 0, PySem.Value.int 1 0, PySem.Value.int 0 0, PySem.Value.int 0 0, PySem.Value.int 3 0, PySem.Value.ref 190, PySem.Value.bool Bool.true, PySem.Value.int 181 0, PySem.Value.ref 191, PySem.Value.none, PySem.Value.ref 192, PySem.Value.ref 193, PySem.Value.ref 194, PySem.Value.int 437 0, PySem.Value.int 139 0, PySem.Value.str "/claim/cut.py" 438]), List.toArray []⟩
noncomputable def ob196 (P : Params) : Obj := ⟨PySem.Value.type "function", Option.none, .func ⟨"share", "share", (argsOf (topAt 23)), (PySem.FuncBody.stmts (bodyOf (topAt 23))), (scopeOf (topAt 23)), 3, [], PySem.Value.none, PySem.Value.none, PySem.Value.none, (PySem.Value.str "vectorcove.values" 339), Option.none, (PySem.Value.ref 195), PySem.Value.none, 0⟩, List.toArray []⟩
noncomputable def ob197 (P : Params) : Obj := ⟨PySem.Value.type "tuple", Option.none, PySem.Data.seq (List.toArray []) 0, List.toArray []⟩
noncomputable def ob198 (P : Params) : Obj := ⟨PySem.Value.none, Option.none, PySem.Data.fields (List.toArray []), List.toArray []⟩
noncomputable def ob199 (P : Params) : Obj := ⟨PySem.Value.type "tuple", Option.none, PySem.Data.seq (List.toArray [PySem.Value.str "v" 445, PySem.Value.str "name" 446]) 0, List.toArray []⟩
noncomputable def ob200 (P : Params) : Obj := ⟨PySem.Value.type "tuple", Option.none, PySem.Data.seq (List.toArray []) 0, List.toArray []⟩
noncomputable def ob201 (P : Params) : Obj := ⟨PySem.Value.none, Option.none, .func ⟨"get_attr", "get_attr", (argsOf (topAt 25)), (PySem.FuncBody.stmts (bodyOf (topAt 25))), (scopeOf (topAt 25)), 0, [], PySem.Value.none, PySem.Value.none, PySem.Value.none, PySem.Value.none, Option.none, PySem.Value.none, PySem.Value.none, 0⟩, List.toArray []⟩
noncomputable def ob202 (P : Params) : Obj := ⟨PySem.Value.type "code", Option.none, PySem.Data.fields (List.toArray [PySem.Value.str "get_attr" 442, PySem.Value.str "get_attr" 443, PySem.Value.str "/claim/cut.py" 444, PySem.Value.int 144 0, PySem.Value.int 2 0, PySem.Value.int 0 0, PySem.Value.int 0 0, PySem.Value.int 3 0, PySem.Value.ref 197, PySem.Value.bool Bool.true, PySem.Value.int 181 0, PySem.Value.ref 198, PySem.Value.none, PySem.Value.ref 199, PySem.Value.ref 200, PySem.Value.ref 201, PySem.Value.int 447 0, PySem.Value.int 144 0, PySem.Value.str "/claim/cut.py" 448]), List.toArray []⟩
noncomputable def ob203 (P : Params) : Obj := ⟨PySem.Value.type "function", Option.none, .func ⟨"get_attr", "get_attr", (argsOf (topAt 25)), (PySem.FuncBody.stmts (bodyOf (topAt 25))), (scopeOf (topAt 25)), 3, [], PySem.Value.none, PySem.Value.none, PySem.Value.none, (PySem.Value.str "vectorcove.attrs" 440), Option.none, (PySem.Value.ref 202), PySem.Value.none, 0⟩, List.toArray []⟩
noncomputable def ob204 (P : Params) : Obj := ⟨PySem.Value.type "tuple", Option.none, PySem.Data.seq (List.toArray []) 0, List.toArray []⟩
noncomputable def ob205 (P : Params) : Obj := ⟨PySem.Value.none, Option.none, PySem.Data.fields (List.toArray []), List.toArray []⟩
noncomputable def ob206 (P : Params) : Obj := ⟨PySem.Value.type "tuple", Option.none, PySem.Data.seq (List.toArray [PySem.Value.str "kind" 453, PySem.Value.str "item" 454]) 0, List.toArray []⟩
noncomputable def ob207 (P : Params) : Obj := ⟨PySem.Value.type "tuple", Option.none, PySem.Data.seq (List.toArray []) 0, List.toArray []⟩
noncomputable def ob208 (P : Params) : Obj := ⟨PySem.Value.none, Option.none, .func ⟨"label_text", "label_text", (argsOf (topAt 26)), (PySem.FuncBody.stmts (bodyOf (topAt 26))), (scopeOf (topAt 26)), 0, [], PySem.Value.none, PySem.Value.none, PySem.Value.none, PySem.Value.none, Option.none, PySem.Value.none, PySem.Value.none, 0⟩, List.toArray []⟩
noncomputable def ob209 (P : Params) : Obj := ⟨PySem.Value.type "code", Option.none, PySem.Data.fields (List.toArray [PySem.Value.str "label_text" 450, PySem.Value.str "label_text" 451, PySem.Value.str "/claim/cut.py" 452, PySem.Value.int 148 0, PySem.Value.int 2 0, PySem.Value.int 0 0, PySem.Value.int 0 0, PySem.Value.int 3 0, PySem.Value.ref 204, PySem.Value.bool Bool.true, PySem.Value.int 181 0, PySem.Value.ref 205, PySem.Value.none, PySem.Value.ref 206, PySem.Value.ref 207, PySem.Value.ref 208, PySem.Value.int 455 0, PySem.Value.int 148 0, PySem.Value.str "/claim/cut.py" 456]), List.toArray []⟩
noncomputable def ob210 (P : Params) : Obj := ⟨PySem.Value.type "function", Option.none, .func ⟨"label_text", "label_text", (argsOf (topAt 26)), (PySem.FuncBody.stmts (bodyOf (topAt 26))), (scopeOf (topAt 26)), 3, [], PySem.Value.none, PySem.Value.none, PySem.Value.none, (PySem.Value.str "vectorcove.attrs" 440), Option.none, (PySem.Value.ref 209), PySem.Value.none, 0⟩, List.toArray []⟩
noncomputable def ob211 (P : Params) : Obj := ⟨PySem.Value.type "tuple", Option.none, PySem.Data.seq (List.toArray []) 0, List.toArray []⟩
noncomputable def ob212 (P : Params) : Obj := ⟨PySem.Value.none, Option.none, PySem.Data.fields (List.toArray []), List.toArray []⟩
noncomputable def ob213 (P : Params) : Obj := ⟨PySem.Value.type "tuple", Option.none, PySem.Data.seq (List.toArray [PySem.Value.str "texts" 461, PySem.Value.str "code" 462]) 0, List.toArray []⟩
noncomputable def ob214 (P : Params) : Obj := ⟨PySem.Value.type "tuple", Option.none, PySem.Data.seq (List.toArray []) 0, List.toArray []⟩
noncomputable def ob215 (P : Params) : Obj := ⟨PySem.Value.none, Option.none, .func ⟨"level_at", "level_at", (argsOf (topAt 27)), (PySem.FuncBody.stmts (bodyOf (topAt 27))), (scopeOf (topAt 27)), 0, [], PySem.Value.none, PySem.Value.none, PySem.Value.none, PySem.Value.none, Option.none, PySem.Value.none, PySem.Value.none, 0⟩, List.toArray []⟩
noncomputable def ob216 (P : Params) : Obj := ⟨PySem.Value.type "code", Option.none, PySem.Data.fields (List.toArray [PySem.Value.str "level_at" 458, PySem.Value.str "level_at" 459, PySem.Value.str "/claim/cut.py" 460, PySem.Value.int 156 0, PySem.Value.int 2 0, PySem.Value.int 0 0, PySem.Value.int 0 0, PySem.Value.int 3 0, PySem.Value.ref 211, PySem.Value.bool Bool.true, PySem.Value.int 181 0, PySem.Value.ref 212, PySem.Value.none, PySem.Value.ref 213, PySem.Value.ref 214, PySem.Value.ref 215, PySem.Value.int 463 0, PySem.Value.int 156 0, PySem.Value.str "/claim/cut.py" 464]), List.toArray []⟩
noncomputable def ob217 (P : Params) : Obj := ⟨PySem.Value.type "function", Option.none, .func ⟨"level_at", "level_at", (argsOf (topAt 27)), (PySem.FuncBody.stmts (bodyOf (topAt 27))), (scopeOf (topAt 27)), 3, [], PySem.Value.none, PySem.Value.none, PySem.Value.none, (PySem.Value.str "vectorcove.attrs" 440), Option.none, (PySem.Value.ref 216), PySem.Value.none, 0⟩, List.toArray []⟩
noncomputable def ob218 (P : Params) : Obj := ⟨PySem.Value.type "tuple", Option.none, PySem.Data.seq (List.toArray []) 0, List.toArray []⟩
noncomputable def ob219 (P : Params) : Obj := ⟨PySem.Value.none, Option.none, PySem.Data.fields (List.toArray []), List.toArray []⟩
noncomputable def ob220 (P : Params) : Obj := ⟨PySem.Value.none, Option.none, .func ⟨"label_texts", "label_texts", (argsOf (topAt 28)), (PySem.FuncBody.stmts (bodyOf (topAt 28))), (scopeOf (topAt 28)), 0, [], PySem.Value.none, PySem.Value.none, PySem.Value.none, PySem.Value.none, Option.none, PySem.Value.none, PySem.Value.none, 0⟩, List.toArray []⟩
noncomputable def ob221 (P : Params) : Obj := ⟨PySem.Value.type "code", Option.none, PySem.Data.fields (List.toArray [PySem.Value.str "label_texts" 466, PySem.Value.str "label_texts" 467, PySem.Value.str "/claim/cut.py" 468, PySem.Value.int 160 0, PySem.Value.int 1 0, PySem.Value.int 0 0, PySem.Value.int 0 0, PySem.Value.int 3 0, PySem.Value.ref 218, PySem.Value.bool Bool.true, PySem.Value.int 181 0, PySem.Value.ref 219, PySem.Value.none, PySem.Value.none, PySem.Value.none, PySem.Value.ref 220, PySem.Value.int 469 0, PySem.Value.int 160 0, PySem.Value.str "/claim/cut.py" 470]), List.toArray []⟩
noncomputable def ob222 (P : Params) : Obj := ⟨PySem.Value.type "function", Option.none, .func ⟨"label_texts", "label_texts", (argsOf (topAt 28)), (PySem.FuncBody.stmts (bodyOf (topAt 28))), (scopeOf (topAt 28)), 3, [], PySem.Value.none, PySem.Value.none, PySem.Value.none, (PySem.Value.str "vectorcove.attrs" 440), Option.none, (PySem.Value.ref 221), PySem.Value.none, 0⟩, List.toArray []⟩
noncomputable def ob223 (P : Params) : Obj := ⟨PySem.Value.type "tuple", Option.none, PySem.Data.seq (List.toArray []) 0, List.toArray []⟩
noncomputable def ob224 (P : Params) : Obj := ⟨PySem.Value.none, Option.none, PySem.Data.fields (List.toArray []), List.toArray []⟩
noncomputable def ob225 (P : Params) : Obj := ⟨PySem.Value.none, Option.none, .func ⟨"names_of", "names_of", (argsOf (topAt 29)), (PySem.FuncBody.stmts (bodyOf (topAt 29))), (scopeOf (topAt 29)), 0, [], PySem.Value.none, PySem.Value.none, PySem.Value.none, PySem.Value.none, Option.none, PySem.Value.none, PySem.Value.none, 0⟩, List.toArray []⟩
noncomputable def ob226 (P : Params) : Obj := ⟨PySem.Value.type "code", Option.none, PySem.Data.fields (List.toArray [PySem.Value.str "names_of" 472, PySem.Value.str "names_of" 473, PySem.Value.str "/claim/cut.py" 474, PySem.Value.int 166 0, PySem.Value.int 1 0, PySem.Value.int 0 0, PySem.Value.int 0 0, PySem.Value.int 3 0, PySem.Value.ref 223, PySem.Value.bool Bool.true, PySem.Value.int 181 0, PySem.Value.ref 224, PySem.Value.none, PySem.Value.none, PySem.Value.none, PySem.Value.ref 225, PySem.Value.int 475 0, PySem.Value.int 166 0, PySem.Value.str "/claim/cut.py" 476]), List.toArray []⟩
noncomputable def ob227 (P : Params) : Obj := ⟨PySem.Value.type "function", Option.none, .func ⟨"names_of", "names_of", (argsOf (topAt 29)), (PySem.FuncBody.stmts (bodyOf (topAt 29))), (scopeOf (topAt 29)), 3, [], PySem.Value.none, PySem.Value.none, PySem.Value.none, (PySem.Value.str "vectorcove.attrs" 440), Option.none, (PySem.Value.ref 226), PySem.Value.none, 0⟩, List.toArray []⟩
noncomputable def ob228 (P : Params) : Obj := ⟨PySem.Value.type "tuple", Option.none, PySem.Data.seq (List.toArray []) 0, List.toArray []⟩
noncomputable def ob229 (P : Params) : Obj := ⟨PySem.Value.none, Option.none, PySem.Data.fields (List.toArray []), List.toArray []⟩
noncomputable def ob230 (P : Params) : Obj := ⟨PySem.Value.type "tuple", Option.none, PySem.Data.seq (List.toArray [PySem.Value.str "v" 481, PySem.Value.str "dims" 482]) 0, List.toArray []⟩
noncomputable def ob231 (P : Params) : Obj := ⟨PySem.Value.type "tuple", Option.none, PySem.Data.seq (List.toArray []) 0, List.toArray []⟩
noncomputable def ob232 (P : Params) : Obj := ⟨PySem.Value.none, Option.none, .func ⟨"dim_of", "dim_of", (argsOf (topAt 30)), (PySem.FuncBody.stmts (bodyOf (topAt 30))), (scopeOf (topAt 30)), 0, [], PySem.Value.none, PySem.Value.none, PySem.Value.none, PySem.Value.none, Option.none, PySem.Value.none, PySem.Value.none, 0⟩, List.toArray []⟩
noncomputable def ob233 (P : Params) : Obj := ⟨PySem.Value.type "code", Option.none, PySem.Data.fields (List.toArray [PySem.Value.str "dim_of" 478, PySem.Value.str "dim_of" 479, PySem.Value.str "/claim/cut.py" 480, PySem.Value.int 182 0, PySem.Value.int 1 0, PySem.Value.int 0 0, PySem.Value.int 0 0, PySem.Value.int 3 0, PySem.Value.ref 228, PySem.Value.bool Bool.true, PySem.Value.int 181 0, PySem.Value.ref 229, PySem.Value.none, PySem.Value.ref 230, PySem.Value.ref 231, PySem.Value.ref 232, PySem.Value.int 483 0, PySem.Value.int 182 0, PySem.Value.str "/claim/cut.py" 484]), List.toArray []⟩
noncomputable def ob234 (P : Params) : Obj := ⟨PySem.Value.type "function", Option.none, .func ⟨"dim_of", "dim_of", (argsOf (topAt 30)), (PySem.FuncBody.stmts (bodyOf (topAt 30))), (scopeOf (topAt 30)), 3, [], PySem.Value.none, PySem.Value.none, PySem.Value.none, (PySem.Value.str "vectorcove.attrs" 440), Option.none, (PySem.Value.ref 233), PySem.Value.none, 0⟩, List.toArray []⟩
noncomputable def ob235 (P : Params) : Obj := ⟨PySem.Value.type "tuple", Option.none, PySem.Data.seq (List.toArray []) 0, List.toArray []⟩
noncomputable def ob236 (P : Params) : Obj := ⟨PySem.Value.none, Option.none, PySem.Data.fields (List.toArray []), List.toArray []⟩
noncomputable def ob237 (P : Params) : Obj := ⟨PySem.Value.none, Option.none, .func ⟨"dimnames_of", "dimnames_of", (argsOf (topAt 31)), (PySem.FuncBody.stmts (bodyOf (topAt 31))), (scopeOf (topAt 31)), 0, [], PySem.Value.none, PySem.Value.none, PySem.Value.none, PySem.Value.none, Option.none, PySem.Value.none, PySem.Value.none, 0⟩, List.toArray []⟩
noncomputable def ob238 (P : Params) : Obj := ⟨PySem.Value.type "code", Option.none, PySem.Data.fields (List.toArray [PySem.Value.str "dimnames_of" 486, PySem.Value.str "dimnames_of" 487, PySem.Value.str "/claim/cut.py" 488, PySem.Value.int 187 0, PySem.Value.int 1 0, PySem.Value.int 0 0, PySem.Value.int 0 0, PySem.Value.int 3 0, PySem.Value.ref 235, PySem.Value.bool Bool.true, PySem.Value.int 181 0, PySem.Value.ref 236, PySem.Value.none, PySem.Value.none, PySem.Value.none, PySem.Value.ref 237, PySem.Value.int 489 0, PySem.Value.int 187 0, PySem.Value.str "/claim/cut.py" 490]), List.toArray []⟩
noncomputable def ob239 (P : Params) : Obj := ⟨PySem.Value.type "function", Option.none, .func ⟨"dimnames_of", "dimnames_of", (argsOf (topAt 31)), (PySem.FuncBody.stmts (bodyOf (topAt 31))), (scopeOf (topAt 31)), 3, [], PySem.Value.none, PySem.Value.none, PySem.Value.none, (PySem.Value.str "vectorcove.attrs" 440), Option.none, (PySem.Value.ref 238), PySem.Value.none, 0⟩, List.toArray []⟩
noncomputable def ob240 (P : Params) : Obj := ⟨PySem.Value.type "tuple", Option.none, PySem.Data.seq (List.toArray []) 0, List.toArray []⟩
noncomputable def ob241 (P : Params) : Obj := ⟨PySem.Value.none, Option.none, PySem.Data.fields (List.toArray []), List.toArray []⟩
noncomputable def ob242 (P : Params) : Obj := ⟨PySem.Value.type "tuple", Option.none, PySem.Data.seq (List.toArray [PySem.Value.str "v" 495, PySem.Value.str "found" 496]) 0, List.toArray []⟩
noncomputable def ob243 (P : Params) : Obj := ⟨PySem.Value.type "tuple", Option.none, PySem.Data.seq (List.toArray []) 0, List.toArray []⟩
noncomputable def ob244 (P : Params) : Obj := ⟨PySem.Value.none, Option.none, .func ⟨"class_attr", "class_attr", (argsOf (topAt 32)), (PySem.FuncBody.stmts (bodyOf (topAt 32))), (scopeOf (topAt 32)), 0, [], PySem.Value.none, PySem.Value.none, PySem.Value.none, PySem.Value.none, Option.none, PySem.Value.none, PySem.Value.none, 0⟩, List.toArray []⟩
noncomputable def ob245 (P : Params) : Obj := ⟨PySem.Value.type "code", Option.none, PySem.Data.fields (List.toArray [PySem.Value.str "class_attr" 492, PySem.Value.str "class_attr" 493, PySem.Value.str "/claim/cut.py" 494, PySem.Value.int 192 0, PySem.Value.int 1 0, PySem.Value.int 0 0, PySem.Value.int 0 0, PySem.Value.int 3 0, PySem.Value.ref 240, PySem.Value.bool Bool.true, PySem.Value.int 181 0, PySem.Value.ref 241, PySem.Value.none, PySem.Value.ref 242, PySem.Value.ref 243, PySem.Value.ref 244, PySem.Value.int 497 0, PySem.Value.int 192 0, PySem.Value.str "/claim/cut.py" 498]), List.toArray []⟩
noncomputable def ob246 (P : Params) : Obj := ⟨PySem.Value.type "function", Option.none, .func ⟨"class_attr", "class_attr", (argsOf (topAt 32)), (PySem.FuncBody.stmts (bodyOf (topAt 32))), (scopeOf (topAt 32)), 3, [], PySem.Value.none, PySem.Value.none, PySem.Value.none, (PySem.Value.str "vectorcove.attrs" 440), Option.none, (PySem.Value.ref 245), PySem.Value.none, 0⟩, List.toArray []⟩
noncomputable def ob247 (P : Params) : Obj := ⟨PySem.Value.type "tuple", Option.none, PySem.Data.seq (List.toArray []) 0, List.toArray []⟩
noncomputable def ob248 (P : Params) : Obj := ⟨PySem.Value.none, Option.none, PySem.Data.fields (List.toArray []), List.toArray []⟩
noncomputable def ob249 (P : Params) : Obj := ⟨PySem.Value.type "tuple", Option.none, PySem.Data.seq (List.toArray [PySem.Value.str "names" 505, PySem.Value.str "sep" 506, PySem.Value.str "taken" 507, PySem.Value.str "name" 508, PySem.Value.str "seen" 509, PySem.Value.str "counts" 510, PySem.Value.str "found" 511, PySem.Value.str "number" 512, PySem.Value.str "fresh" 513]) 0, List.toArray []⟩
noncomputable def ob250 (P : Params) : Obj := ⟨PySem.Value.type "tuple", Option.none, PySem.Data.seq (List.toArray []) 0, List.toArray []⟩
noncomputable def ob251 (P : Params) : Obj := ⟨PySem.Value.none, Option.none, .func ⟨"make_unique", "make_unique", (argsOf (topAt 34)), (PySem.FuncBody.stmts (bodyOf (topAt 34))), (scopeOf (topAt 34)), 0, [], PySem.Value.none, PySem.Value.none, PySem.Value.none, PySem.Value.none, Option.none, PySem.Value.none, PySem.Value.none, 0⟩, List.toArray []⟩
noncomputable def ob252 (P : Params) : Obj := ⟨PySem.Value.type "code", Option.none, PySem.Data.fields (List.toArray [PySem.Value.str "make_unique" 502, PySem.Value.str "make_unique" 503, PySem.Value.str "/claim/cut.py" 504, PySem.Value.int 198 0, PySem.Value.int 2 0, PySem.Value.int 0 0, PySem.Value.int 0 0, PySem.Value.int 3 0, PySem.Value.ref 247, PySem.Value.bool Bool.true, PySem.Value.int 181 0, PySem.Value.ref 248, PySem.Value.none, PySem.Value.ref 249, PySem.Value.ref 250, PySem.Value.ref 251, PySem.Value.int 514 0, PySem.Value.int 198 0, PySem.Value.str "/claim/cut.py" 515]), List.toArray []⟩
noncomputable def ob253 (P : Params) : Obj := ⟨PySem.Value.type "function", Option.none, .func ⟨"make_unique", "make_unique", (argsOf (topAt 34)), (PySem.FuncBody.stmts (bodyOf (topAt 34))), (scopeOf (topAt 34)), 3, [], PySem.Value.none, PySem.Value.none, PySem.Value.none, (PySem.Value.str "vectorcove.texts" 500), Option.none, (PySem.Value.ref 252), PySem.Value.none, 0⟩, List.toArray []⟩
noncomputable def ob254 (P : Params) : Obj := ⟨PySem.Value.type "tuple", Option.none, PySem.Data.seq (List.toArray []) 0, List.toArray []⟩
noncomputable def ob255 (P : Params) : Obj := ⟨PySem.Value.none, Option.none, PySem.Data.fields (List.toArray []), List.toArray []⟩
noncomputable def ob256 (P : Params) : Obj := ⟨PySem.Value.none, Option.none, .func ⟨"new_frame", "new_frame", (argsOf (topAt 36)), (PySem.FuncBody.stmts (bodyOf (topAt 36))), (scopeOf (topAt 36)), 0, [], PySem.Value.none, PySem.Value.none, PySem.Value.none, PySem.Value.none, Option.none, PySem.Value.none, PySem.Value.none, 0⟩, List.toArray []⟩
noncomputable def ob257 (P : Params) : Obj := ⟨PySem.Value.type "code", Option.none, PySem.Data.fields (List.toArray [PySem.Value.str "new_frame" 519, PySem.Value.str "new_frame" 520, PySem.Value.str "/claim/cut.py" 521, PySem.Value.int 220 0, PySem.Value.int 3 0, PySem.Value.int 0 0, PySem.Value.int 0 0, PySem.Value.int 3 0, PySem.Value.ref 254, PySem.Value.bool Bool.true, PySem.Value.int 181 0, PySem.Value.ref 255, PySem.Value.none, PySem.Value.none, PySem.Value.none, PySem.Value.ref 256, PySem.Value.int 522 0, PySem.Value.int 220 0, PySem.Value.str "/claim/cut.py" 523]), List.toArray []⟩
noncomputable def ob258 (P : Params) : Obj := ⟨PySem.Value.type "function", Option.none, .func ⟨"new_frame", "new_frame", (argsOf (topAt 36)), (PySem.FuncBody.stmts (bodyOf (topAt 36))), (scopeOf (topAt 36)), 3, [], PySem.Value.none, PySem.Value.none, PySem.Value.none, (PySem.Value.str "vectorcove.frames" 517), Option.none, (PySem.Value.ref 257), PySem.Value.none, 0⟩, List.toArray []⟩
noncomputable def ob259 (P : Params) : Obj := ⟨PySem.Value.type "tuple", Option.none, PySem.Data.seq (List.toArray []) 0, List.toArray []⟩
noncomputable def ob260 (P : Params) : Obj := ⟨PySem.Value.none, Option.none, PySem.Data.fields (List.toArray []), List.toArray []⟩
noncomputable def ob261 (P : Params) : Obj := ⟨PySem.Value.type "tuple", Option.none, PySem.Data.seq (List.toArray [PySem.Value.str "df" 528]) 0, List.toArray []⟩
noncomputable def ob262 (P : Params) : Obj := ⟨PySem.Value.type "tuple", Option.none, PySem.Data.seq (List.toArray []) 0, List.toArray []⟩
noncomputable def ob263 (P : Params) : Obj := ⟨PySem.Value.none, Option.none, .func ⟨"frame_rows", "frame_rows", (argsOf (topAt 37)), (PySem.FuncBody.stmts (bodyOf (topAt 37))), (scopeOf (topAt 37)), 0, [], PySem.Value.none, PySem.Value.none, PySem.Value.none, PySem.Value.none, Option.none, PySem.Value.none, PySem.Value.none, 0⟩, List.toArray []⟩
noncomputable def ob264 (P : Params) : Obj := ⟨PySem.Value.type "code", Option.none, PySem.Data.fields (List.toArray [PySem.Value.str "frame_rows" 525, PySem.Value.str "frame_rows" 526, PySem.Value.str "/claim/cut.py" 527, PySem.Value.int 224 0, PySem.Value.int 1 0, PySem.Value.int 0 0, PySem.Value.int 0 0, PySem.Value.int 3 0, PySem.Value.ref 259, PySem.Value.bool Bool.true, PySem.Value.int 181 0, PySem.Value.ref 260, PySem.Value.none, PySem.Value.ref 261, PySem.Value.ref 262, PySem.Value.ref 263, PySem.Value.int 529 0, PySem.Value.int 224 0, PySem.Value.str "/claim/cut.py" 530]), List.toArray []⟩
noncomputable def ob265 (P : Params) : Obj := ⟨PySem.Value.type "function", Option.none, .func ⟨"frame_rows", "frame_rows", (argsOf (topAt 37)), (PySem.FuncBody.stmts (bodyOf (topAt 37))), (scopeOf (topAt 37)), 3, [], PySem.Value.none, PySem.Value.none, PySem.Value.none, (PySem.Value.str "vectorcove.frames" 517), Option.none, (PySem.Value.ref 264), PySem.Value.none, 0⟩, List.toArray []⟩
noncomputable def ob266 (P : Params) : Obj := ⟨PySem.Value.type "tuple", Option.none, PySem.Data.seq (List.toArray []) 0, List.toArray []⟩
noncomputable def ob267 (P : Params) : Obj := ⟨PySem.Value.none, Option.none, PySem.Data.fields (List.toArray []), List.toArray []⟩
noncomputable def ob268 (P : Params) : Obj := ⟨PySem.Value.none, Option.none, .func ⟨"column_names", "column_names", (argsOf (topAt 38)), (PySem.FuncBody.stmts (bodyOf (topAt 38))), (scopeOf (topAt 38)), 0, [], PySem.Value.none, PySem.Value.none, PySem.Value.none, PySem.Value.none, Option.none, PySem.Value.none, PySem.Value.none, 0⟩, List.toArray []⟩
noncomputable def ob269 (P : Params) : Obj := ⟨PySem.Value.type "code", Option.none, PySem.Data.fields (List.toArray [PySem.Value.str "column_names" 532, PySem.Value.str "column_names" 533, PySem.Value.str "/claim/cut.py" 534, PySem.Value.int 228 0, PySem.Value.int 1 0, PySem.Value.int 0 0, PySem.Value.int 0 0, PySem.Value.int 3 0, PySem.Value.ref 266, PySem.Value.bool Bool.true, PySem.Value.int 181 0, PySem.Value.ref 267, PySem.Value.none, PySem.Value.none, PySem.Value.none, PySem.Value.ref 268, PySem.Value.int 535 0, PySem.Value.int 228 0, PySem.Value.str "/claim/cut.py" 536]), List.toArray []⟩
noncomputable def ob270 (P : Params) : Obj := ⟨PySem.Value.type "function", Option.none, .func ⟨"column_names", "column_names", (argsOf (topAt 38)), (PySem.FuncBody.stmts (bodyOf (topAt 38))), (scopeOf (topAt 38)), 3, [], PySem.Value.none, PySem.Value.none, PySem.Value.none, (PySem.Value.str "vectorcove.frames" 517), Option.none, (PySem.Value.ref 269), PySem.Value.none, 0⟩, List.toArray []⟩
noncomputable def ob271 (P : Params) : Obj := ⟨PySem.Value.type "tuple", Option.none, PySem.Data.seq (List.toArray []) 0, List.toArray []⟩
noncomputable def ob272 (P : Params) : Obj := ⟨PySem.Value.none, Option.none, PySem.Data.fields (List.toArray []), List.toArray []⟩
noncomputable def ob273 (P : Params) : Obj := ⟨PySem.Value.type "tuple", Option.none, PySem.Data.seq (List.toArray [PySem.Value.str "df" 541]) 0, List.toArray []⟩
noncomputable def ob274 (P : Params) : Obj := ⟨PySem.Value.type "tuple", Option.none, PySem.Data.seq (List.toArray []) 0, List.toArray []⟩
noncomputable def ob275 (P : Params) : Obj := ⟨PySem.Value.none, Option.none, .func ⟨"row_names", "row_names", (argsOf (topAt 39)), (PySem.FuncBody.stmts (bodyOf (topAt 39))), (scopeOf (topAt 39)), 0, [], PySem.Value.none, PySem.Value.none, PySem.Value.none, PySem.Value.none, Option.none, PySem.Value.none, PySem.Value.none, 0⟩, List.toArray []⟩
noncomputable def ob276 (P : Params) : Obj := ⟨PySem.Value.type "code", Option.none, PySem.Data.fields (List.toArray [PySem.Value.str "row_names" 538, PySem.Value.str "row_names" 539, PySem.Value.str "/claim/cut.py" 540, PySem.Value.int 231 0, PySem.Value.int 1 0, PySem.Value.int 0 0, PySem.Value.int 0 0, PySem.Value.int 3 0, PySem.Value.ref 271, PySem.Value.bool Bool.true, PySem.Value.int 181 0, PySem.Value.ref 272, PySem.Value.none, PySem.Value.ref 273, PySem.Value.ref 274, PySem.Value.ref 275, PySem.Value.int 542 0, PySem.Value.int 231 0, PySem.Value.str "/claim/cut.py" 543]), List.toArray []⟩
noncomputable def ob277 (P : Params) : Obj := ⟨PySem.Value.type "function", Option.none, .func ⟨"row_names", "row_names", (argsOf (topAt 39)), (PySem.FuncBody.stmts (bodyOf (topAt 39))), (scopeOf (topAt 39)), 3, [], PySem.Value.none, PySem.Value.none, PySem.Value.none, (PySem.Value.str "vectorcove.frames" 517), Option.none, (PySem.Value.ref 276), PySem.Value.none, 0⟩, List.toArray []⟩
noncomputable def ob278 (P : Params) : Obj := ⟨PySem.Value.type "tuple", Option.none, PySem.Data.seq (List.toArray []) 0, List.toArray []⟩
noncomputable def ob279 (P : Params) : Obj := ⟨PySem.Value.none, Option.none, PySem.Data.fields (List.toArray []), List.toArray []⟩
noncomputable def ob280 (P : Params) : Obj := ⟨PySem.Value.type "tuple", Option.none, PySem.Data.seq (List.toArray [PySem.Value.str "column" 548, PySem.Value.str "kept" 549, PySem.Value.str "name" 550]) 0, List.toArray []⟩
noncomputable def ob281 (P : Params) : Obj := ⟨PySem.Value.type "tuple", Option.none, PySem.Data.seq (List.toArray []) 0, List.toArray []⟩
noncomputable def ob282 (P : Params) : Obj := ⟨PySem.Value.none, Option.none, .func ⟨"kept_attrs", "kept_attrs", (argsOf (topAt 40)), (PySem.FuncBody.stmts (bodyOf (topAt 40))), (scopeOf (topAt 40)), 0, [], PySem.Value.none, PySem.Value.none, PySem.Value.none, PySem.Value.none, Option.none, PySem.Value.none, PySem.Value.none, 0⟩, List.toArray []⟩
noncomputable def ob283 (P : Params) : Obj := ⟨PySem.Value.type "code", Option.none, PySem.Data.fields (List.toArray [PySem.Value.str "kept_attrs" 545, PySem.Value.str "kept_attrs" 546, PySem.Value.str "/claim/cut.py" 547, PySem.Value.int 235 0, PySem.Value.int 1 0, PySem.Value.int 0 0, PySem.Value.int 0 0, PySem.Value.int 3 0, PySem.Value.ref 278, PySem.Value.bool Bool.true, PySem.Value.int 181 0, PySem.Value.ref 279, PySem.Value.none, PySem.Value.ref 280, PySem.Value.ref 281, PySem.Value.ref 282, PySem.Value.int 551 0, PySem.Value.int 235 0, PySem.Value.str "/claim/cut.py" 552]), List.toArray []⟩
noncomputable def ob284 (P : Params) : Obj := ⟨PySem.Value.type "function", Option.none, .func ⟨"kept_attrs", "kept_attrs", (argsOf (topAt 40)), (PySem.FuncBody.stmts (bodyOf (topAt 40))), (scopeOf (topAt 40)), 3, [], PySem.Value.none, PySem.Value.none, PySem.Value.none, (PySem.Value.str "vectorcove.frames" 517), Option.none, (PySem.Value.ref 283), PySem.Value.none, 0⟩, List.toArray []⟩
noncomputable def ob285 (P : Params) : Obj := ⟨PySem.Value.type "tuple", Option.none, PySem.Data.seq (List.toArray []) 0, List.toArray []⟩
noncomputable def ob286 (P : Params) : Obj := ⟨PySem.Value.none, Option.none, PySem.Data.fields (List.toArray []), List.toArray []⟩
noncomputable def ob287 (P : Params) : Obj := ⟨PySem.Value.type "tuple", Option.none, PySem.Data.seq (List.toArray [PySem.Value.str "kind" 557]) 0, List.toArray []⟩
noncomputable def ob288 (P : Params) : Obj := ⟨PySem.Value.type "tuple", Option.none, PySem.Data.seq (List.toArray []) 0, List.toArray []⟩
noncomputable def ob289 (P : Params) : Obj := ⟨PySem.Value.none, Option.none, .func ⟨"lacking", "lacking", (argsOf (topAt 41)), (PySem.FuncBody.stmts (bodyOf (topAt 41))), (scopeOf (topAt 41)), 0, [], PySem.Value.none, PySem.Value.none, PySem.Value.none, PySem.Value.none, Option.none, PySem.Value.none, PySem.Value.none, 0⟩, List.toArray []⟩
noncomputable def ob290 (P : Params) : Obj := ⟨PySem.Value.type "code", Option.none, PySem.Data.fields (List.toArray [PySem.Value.str "lacking" 554, PySem.Value.str "lacking" 555, PySem.Value.str "/claim/cut.py" 556, PySem.Value.int 243 0, PySem.Value.int 1 0, PySem.Value.int 0 0, PySem.Value.int 0 0, PySem.Value.int 3 0, PySem.Value.ref 285, PySem.Value.bool Bool.true, PySem.Value.int 181 0, PySem.Value.ref 286, PySem.Value.none, PySem.Value.ref 287, PySem.Value.ref 288, PySem.Value.ref 289, PySem.Value.int 558 0, PySem.Value.int 243 0, PySem.Value.str "/claim/cut.py" 559]), List.toArray []⟩
noncomputable def ob291 (P : Params) : Obj := ⟨PySem.Value.type "function", Option.none, .func ⟨"lacking", "lacking", (argsOf (topAt 41)), (PySem.FuncBody.stmts (bodyOf (topAt 41))), (scopeOf (topAt 41)), 3, [], PySem.Value.none, PySem.Value.none, PySem.Value.none, (PySem.Value.str "vectorcove.frames" 517), Option.none, (PySem.Value.ref 290), PySem.Value.none, 0⟩, List.toArray []⟩
noncomputable def ob292 (P : Params) : Obj := ⟨PySem.Value.type "tuple", Option.none, PySem.Data.seq (List.toArray []) 0, List.toArray []⟩
noncomputable def ob293 (P : Params) : Obj := ⟨PySem.Value.none, Option.none, PySem.Data.fields (List.toArray []), List.toArray []⟩
noncomputable def ob294 (P : Params) : Obj := ⟨PySem.Value.type "tuple", Option.none, PySem.Data.seq (List.toArray [PySem.Value.str "column" 564, PySem.Value.str "places" 565, PySem.Value.str "items" 566, PySem.Value.str "count" 567, PySem.Value.str "place" 568]) 0, List.toArray []⟩
noncomputable def ob295 (P : Params) : Obj := ⟨PySem.Value.type "tuple", Option.none, PySem.Data.seq (List.toArray []) 0, List.toArray []⟩
noncomputable def ob296 (P : Params) : Obj := ⟨PySem.Value.none, Option.none, .func ⟨"pick_items", "pick_items", (argsOf (topAt 42)), (PySem.FuncBody.stmts (bodyOf (topAt 42))), (scopeOf (topAt 42)), 0, [], PySem.Value.none, PySem.Value.none, PySem.Value.none, PySem.Value.none, Option.none, PySem.Value.none, PySem.Value.none, 0⟩, List.toArray []⟩
noncomputable def ob297 (P : Params) : Obj := ⟨PySem.Value.type "code", Option.none, PySem.Data.fields (List.toArray [PySem.Value.str "pick_items" 561, PySem.Value.str "pick_items" 562, PySem.Value.str "/claim/cut.py" 563, PySem.Value.int 247 0, PySem.Value.int 2 0, PySem.Value.int 0 0, PySem.Value.int 0 0, PySem.Value.int 3 0, PySem.Value.ref 292, PySem.Value.bool Bool.true, PySem.Value.int 181 0, PySem.Value.ref 293, PySem.Value.none, PySem.Value.ref 294, PySem.Value.ref 295, PySem.Value.ref 296, PySem.Value.int 569 0, PySem.Value.int 247 0, PySem.Value.str "/claim/cut.py" 570]), List.toArray []⟩
noncomputable def ob298 (P : Params) : Obj := ⟨PySem.Value.type "function", Option.none, .func ⟨"pick_items", "pick_items", (argsOf (topAt 42)), (PySem.FuncBody.stmts (bodyOf (topAt 42))), (scopeOf (topAt 42)), 3, [], PySem.Value.none, PySem.Value.none, PySem.Value.none, (PySem.Value.str "vectorcove.frames" 517), Option.none, (PySem.Value.ref 297), PySem.Value.none, 0⟩, List.toArray []⟩
noncomputable def ob299 (P : Params) : Obj := ⟨PySem.Value.type "tuple", Option.none, PySem.Data.seq (List.toArray []) 0, List.toArray []⟩
noncomputable def ob300 (P : Params) : Obj := ⟨PySem.Value.none, Option.none, PySem.Data.fields (List.toArray []), List.toArray []⟩
noncomputable def ob301 (P : Params) : Obj := ⟨PySem.Value.none, Option.none, .func ⟨"picked_labels", "picked_labels", (argsOf (topAt 43)), (PySem.FuncBody.stmts (bodyOf (topAt 43))), (scopeOf (topAt 43)), 0, [], PySem.Value.none, PySem.Value.none, PySem.Value.none, PySem.Value.none, Option.none, PySem.Value.none, PySem.Value.none, 0⟩, List.toArray []⟩
noncomputable def ob302 (P : Params) : Obj := ⟨PySem.Value.type "code", Option.none, PySem.Data.fields (List.toArray [PySem.Value.str "picked_labels" 572, PySem.Value.str "picked_labels" 573, PySem.Value.str "/claim/cut.py" 574, PySem.Value.int 256 0, PySem.Value.int 2 0, PySem.Value.int 0 0, PySem.Value.int 0 0, PySem.Value.int 3 0, PySem.Value.ref 299, PySem.Value.bool Bool.true, PySem.Value.int 181 0, PySem.Value.ref 300, PySem.Value.none, PySem.Value.none, PySem.Value.none, PySem.Value.ref 301, PySem.Value.int 575 0, PySem.Value.int 256 0, PySem.Value.str "/claim/cut.py" 576]), List.toArray []⟩
noncomputable def ob303 (P : Params) : Obj := ⟨PySem.Value.type "function", Option.none, .func ⟨"picked_labels", "picked_labels", (argsOf (topAt 43)), (PySem.FuncBody.stmts (bodyOf (topAt 43))), (scopeOf (topAt 43)), 3, [], PySem.Value.none, PySem.Value.none, PySem.Value.none, (PySem.Value.str "vectorcove.frames" 517), Option.none, (PySem.Value.ref 302), PySem.Value.none, 0⟩, List.toArray []⟩
noncomputable def ob304 (P : Params) : Obj := ⟨PySem.Value.type "tuple", Option.none, PySem.Data.seq (List.toArray []) 0, List.toArray []⟩
noncomputable def ob305 (P : Params) : Obj := ⟨PySem.Value.none, Option.none, PySem.Data.fields (List.toArray []), List.toArray []⟩
noncomputable def ob306 (P : Params) : Obj := ⟨PySem.Value.none, Option.none, .func ⟨"pick_rows", "pick_rows", (argsOf (topAt 44)), (PySem.FuncBody.stmts (bodyOf (topAt 44))), (scopeOf (topAt 44)), 0, [], PySem.Value.none, PySem.Value.none, PySem.Value.none, PySem.Value.none, Option.none, PySem.Value.none, PySem.Value.none, 0⟩, List.toArray []⟩
noncomputable def ob307 (P : Params) : Obj := ⟨PySem.Value.type "code", Option.none, PySem.Data.fields (List.toArray [PySem.Value.str "pick_rows" 578, PySem.Value.str "pick_rows" 579, PySem.Value.str "/claim/cut.py" 580, PySem.Value.int 272 0, PySem.Value.int 2 0, PySem.Value.int 0 0, PySem.Value.int 0 0, PySem.Value.int 3 0, PySem.Value.ref 304, PySem.Value.bool Bool.true, PySem.Value.int 181 0, PySem.Value.ref 305, PySem.Value.none, PySem.Value.none, PySem.Value.none, PySem.Value.ref 306, PySem.Value.int 581 0, PySem.Value.int 272 0, PySem.Value.str "/claim/cut.py" 582]), List.toArray []⟩
noncomputable def ob308 (P : Params) : Obj := ⟨PySem.Value.type "function", Option.none, .func ⟨"pick_rows", "pick_rows", (argsOf (topAt 44)), (PySem.FuncBody.stmts (bodyOf (topAt 44))), (scopeOf (topAt 44)), 3, [], PySem.Value.none, PySem.Value.none, PySem.Value.none, (PySem.Value.str "vectorcove.frames" 517), Option.none, (PySem.Value.ref 307), PySem.Value.none, 0⟩, List.toArray []⟩
noncomputable def ob309 (P : Params) : Obj := ⟨PySem.Value.type "tuple", Option.none, PySem.Data.seq (List.toArray []) 0, List.toArray []⟩
noncomputable def ob310 (P : Params) : Obj := ⟨PySem.Value.none, Option.none, PySem.Data.fields (List.toArray []), List.toArray []⟩
noncomputable def ob311 (P : Params) : Obj := ⟨PySem.Value.type "tuple", Option.none, PySem.Data.seq (List.toArray [PySem.Value.str "count" 587, PySem.Value.str "wanted" 588]) 0, List.toArray []⟩
noncomputable def ob312 (P : Params) : Obj := ⟨PySem.Value.type "tuple", Option.none, PySem.Data.seq (List.toArray []) 0, List.toArray []⟩
noncomputable def ob313 (P : Params) : Obj := ⟨PySem.Value.none, Option.none, .func ⟨"head_places", "head_places", (argsOf (topAt 45)), (PySem.FuncBody.stmts (bodyOf (topAt 45))), (scopeOf (topAt 45)), 0, [], PySem.Value.none, PySem.Value.none, PySem.Value.none, PySem.Value.none, Option.none, PySem.Value.none, PySem.Value.none, 0⟩, List.toArray []⟩
noncomputable def ob314 (P : Params) : Obj := ⟨PySem.Value.type "code", Option.none, PySem.Data.fields (List.toArray [PySem.Value.str "head_places" 584, PySem.Value.str "head_places" 585, PySem.Value.str "/claim/cut.py" 586, PySem.Value.int 275 0, PySem.Value.int 2 0, PySem.Value.int 0 0, PySem.Value.int 0 0, PySem.Value.int 3 0, PySem.Value.ref 309, PySem.Value.bool Bool.true, PySem.Value.int 181 0, PySem.Value.ref 310, PySem.Value.none, PySem.Value.ref 311, PySem.Value.ref 312, PySem.Value.ref 313, PySem.Value.int 589 0, PySem.Value.int 275 0, PySem.Value.str "/claim/cut.py" 590]), List.toArray []⟩
noncomputable def ob315 (P : Params) : Obj := ⟨PySem.Value.type "function", Option.none, .func ⟨"head_places", "head_places", (argsOf (topAt 45)), (PySem.FuncBody.stmts (bodyOf (topAt 45))), (scopeOf (topAt 45)), 3, [], PySem.Value.none, PySem.Value.none, PySem.Value.none, (PySem.Value.str "vectorcove.frames" 517), Option.none, (PySem.Value.ref 314), PySem.Value.none, 0⟩, List.toArray []⟩
noncomputable def ob316 (P : Params) : Obj := ⟨PySem.Value.type "tuple", Option.none, PySem.Data.seq (List.toArray []) 0, List.toArray []⟩
noncomputable def ob317 (P : Params) : Obj := ⟨PySem.Value.none, Option.none, PySem.Data.fields (List.toArray []), List.toArray []⟩
noncomputable def ob318 (P : Params) : Obj := ⟨PySem.Value.type "tuple", Option.none, PySem.Data.seq (List.toArray [PySem.Value.str "df" 595, PySem.Value.str "wanted" 596]) 0, List.toArray []⟩
noncomputable def ob319 (P : Params) : Obj := ⟨PySem.Value.type "tuple", Option.none, PySem.Data.seq (List.toArray []) 0, List.toArray []⟩
noncomputable def ob320 (P : Params) : Obj := ⟨PySem.Value.none, Option.none, .func ⟨"head_frame", "head_frame", (argsOf (topAt 46)), (PySem.FuncBody.stmts (bodyOf (topAt 46))), (scopeOf (topAt 46)), 0, [], PySem.Value.none, PySem.Value.none, PySem.Value.none, PySem.Value.none, Option.none, PySem.Value.none, PySem.Value.none, 0⟩, List.toArray []⟩
noncomputable def ob321 (P : Params) : Obj := ⟨PySem.Value.type "code", Option.none, PySem.Data.fields (List.toArray [PySem.Value.str "head_frame" 592, PySem.Value.str "head_frame" 593, PySem.Value.str "/claim/cut.py" 594, PySem.Value.int 279 0, PySem.Value.int 2 0, PySem.Value.int 0 0, PySem.Value.int 0 0, PySem.Value.int 3 0, PySem.Value.ref 316, PySem.Value.bool Bool.true, PySem.Value.int 181 0, PySem.Value.ref 317, PySem.Value.none, PySem.Value.ref 318, PySem.Value.ref 319, PySem.Value.ref 320, PySem.Value.int 597 0, PySem.Value.int 279 0, PySem.Value.str "/claim/cut.py" 598]), List.toArray []⟩
noncomputable def ob322 (P : Params) : Obj := ⟨PySem.Value.type "function", Option.none, .func ⟨"head_frame", "head_frame", (argsOf (topAt 46)), (PySem.FuncBody.stmts (bodyOf (topAt 46))), (scopeOf (topAt 46)), 3, [], PySem.Value.none, PySem.Value.none, PySem.Value.none, (PySem.Value.str "vectorcove.frames" 517), Option.none, (PySem.Value.ref 321), PySem.Value.none, 0⟩, List.toArray []⟩
noncomputable def ob323 (P : Params) : Obj := ⟨PySem.Value.type "tuple", Option.none, PySem.Data.seq (List.toArray []) 0, List.toArray []⟩
noncomputable def ob324 (P : Params) : Obj := ⟨PySem.Value.none, Option.none, PySem.Data.fields (List.toArray []), List.toArray []⟩
noncomputable def ob325 (P : Params) : Obj := ⟨PySem.Value.type "tuple", Option.none, PySem.Data.seq (List.toArray [PySem.Value.str "df" 603, PySem.Value.str "wanted" 604, PySem.Value.str "count" 605, PySem.Value.str "left" 606]) 0, List.toArray []⟩
noncomputable def ob326 (P : Params) : Obj := ⟨PySem.Value.type "tuple", Option.none, PySem.Data.seq (List.toArray []) 0, List.toArray []⟩
noncomputable def ob327 (P : Params) : Obj := ⟨PySem.Value.none, Option.none, .func ⟨"tail_frame", "tail_frame", (argsOf (topAt 47)), (PySem.FuncBody.stmts (bodyOf (topAt 47))), (scopeOf (topAt 47)), 0, [], PySem.Value.none, PySem.Value.none, PySem.Value.none, PySem.Value.none, Option.none, PySem.Value.none, PySem.Value.none, 0⟩, List.toArray []⟩
noncomputable def ob328 (P : Params) : Obj := ⟨PySem.Value.type "code", Option.none, PySem.Data.fields (List.toArray [PySem.Value.str "tail_frame" 600, PySem.Value.str "tail_frame" 601, PySem.Value.str "/claim/cut.py" 602, PySem.Value.int 281 0, PySem.Value.int 2 0, PySem.Value.int 0 0, PySem.Value.int 0 0, PySem.Value.int 3 0, PySem.Value.ref 323, PySem.Value.bool Bool.true, PySem.Value.int 181 0, PySem.Value.ref 324, PySem.Value.none, PySem.Value.ref 325, PySem.Value.ref 326, PySem.Value.ref 327, PySem.Value.int 607 0, PySem.Value.int 281 0, PySem.Value.str "/claim/cut.py" 608]), List.toArray []⟩
noncomputable def ob329 (P : Params) : Obj := ⟨PySem.Value.type "function", Option.none, .func ⟨"tail_frame", "tail_frame", (argsOf (topAt 47)), (PySem.FuncBody.stmts (bodyOf (topAt 47))), (scopeOf (topAt 47)), 3, [], PySem.Value.none, PySem.Value.none, PySem.Value.none, (PySem.Value.str "vectorcove.frames" 517), Option.none, (PySem.Value.ref 328), PySem.Value.none, 0⟩, List.toArray []⟩
noncomputable def ob330 (P : Params) : Obj := ⟨PySem.Value.type "tuple", Option.none, PySem.Data.seq (List.toArray []) 0, List.toArray []⟩
noncomputable def ob331 (P : Params) : Obj := ⟨PySem.Value.none, Option.none, PySem.Data.fields (List.toArray []), List.toArray []⟩
noncomputable def ob332 (P : Params) : Obj := ⟨PySem.Value.type "tuple", Option.none, PySem.Data.seq (List.toArray [PySem.Value.str "df" 613, PySem.Value.str "places" 614]) 0, List.toArray []⟩
noncomputable def ob333 (P : Params) : Obj := ⟨PySem.Value.type "tuple", Option.none, PySem.Data.seq (List.toArray []) 0, List.toArray []⟩
noncomputable def ob334 (P : Params) : Obj := ⟨PySem.Value.none, Option.none, .func ⟨"order_frame", "order_frame", (argsOf (topAt 48)), (PySem.FuncBody.stmts (bodyOf (topAt 48))), (scopeOf (topAt 48)), 0, [], PySem.Value.none, PySem.Value.none, PySem.Value.none, PySem.Value.none, Option.none, PySem.Value.none, PySem.Value.none, 0⟩, List.toArray []⟩
noncomputable def ob335 (P : Params) : Obj := ⟨PySem.Value.type "code", Option.none, PySem.Data.fields (List.toArray [PySem.Value.str "order_frame" 610, PySem.Value.str "order_frame" 611, PySem.Value.str "/claim/cut.py" 612, PySem.Value.int 285 0, PySem.Value.int 2 0, PySem.Value.int 0 0, PySem.Value.int 0 0, PySem.Value.int 3 0, PySem.Value.ref 330, PySem.Value.bool Bool.true, PySem.Value.int 181 0, PySem.Value.ref 331, PySem.Value.none, PySem.Value.ref 332, PySem.Value.ref 333, PySem.Value.ref 334, PySem.Value.int 615 0, PySem.Value.int 285 0, PySem.Value.str "/claim/cut.py" 616]), List.toArray []⟩
noncomputable def ob336 (P : Params) : Obj := ⟨PySem.Value.type "function", Option.none, .func ⟨"order_frame", "order_frame", (argsOf (topAt 48)), (PySem.FuncBody.stmts (bodyOf (topAt 48))), (scopeOf (topAt 48)), 3, [], PySem.Value.none, PySem.Value.none, PySem.Value.none, (PySem.Value.str "vectorcove.frames" 517), Option.none, (PySem.Value.ref 335), PySem.Value.none, 0⟩, List.toArray []⟩
noncomputable def ob337 (P : Params) : Obj := ⟨PySem.Value.type "tuple", Option.none, PySem.Data.seq (List.toArray []) 0, List.toArray []⟩
noncomputable def ob338 (P : Params) : Obj := ⟨PySem.Value.none, Option.none, PySem.Data.fields (List.toArray []), List.toArray []⟩
noncomputable def ob339 (P : Params) : Obj := ⟨PySem.Value.type "tuple", Option.none, PySem.Data.seq (List.toArray [PySem.Value.str "cistern" 623, PySem.Value.str "sorts_of" 624, PySem.Value.str "sweep" 625, PySem.Value.str "cell" 626, PySem.Value.str "silt" 627, PySem.Value.str "drop_now" 628]) 0, List.toArray []⟩
noncomputable def ob340 (P : Params) : Obj := ⟨PySem.Value.type "tuple", Option.none, PySem.Data.seq (List.toArray []) 0, List.toArray []⟩
noncomputable def ob341 (P : Params) : Obj := ⟨PySem.Value.none, Option.none, .func ⟨"_law_ladle", "_law_ladle", (argsOf (topAt 50)), (PySem.FuncBody.stmts (bodyOf (topAt 50))), (scopeOf (topAt 50)), 0, [], PySem.Value.none, PySem.Value.none, PySem.Value.none, PySem.Value.none, Option.none, PySem.Value.none, PySem.Value.none, 0⟩, List.toArray []⟩
noncomputable def ob342 (P : Params) : Obj := ⟨PySem.Value.type "code", Option.none, PySem.Data.fields (List.toArray [PySem.Value.str "_law_ladle" 620, PySem.Value.str "_law_ladle" 621, PySem.Value.str "/claim/cut.py" 622, PySem.Value.int 288 0, PySem.Value.int 2 0, PySem.Value.int 0 0, PySem.Value.int 0 0, PySem.Value.int 3 0, PySem.Value.ref 337, PySem.Value.bool Bool.true, PySem.Value.int 181 0, PySem.Value.ref 338, PySem.Value.none, PySem.Value.ref 339, PySem.Value.ref 340, PySem.Value.ref 341, PySem.Value.int 629 0, PySem.Value.int 288 0, PySem.Value.str "/claim/cut.py" 630]), List.toArray []⟩
noncomputable def ob343 (P : Params) : Obj := ⟨PySem.Value.type "function", Option.none, .func ⟨"_law_ladle", "_law_ladle", (argsOf (topAt 50)), (PySem.FuncBody.stmts (bodyOf (topAt 50))), (scopeOf (topAt 50)), 3, [], PySem.Value.none, PySem.Value.none, PySem.Value.none, (PySem.Value.str "law_ov0066_01" 618), Option.none, (PySem.Value.ref 342), PySem.Value.none, 0⟩, List.toArray []⟩
noncomputable def ob344 (P : Params) : Obj := ⟨PySem.Value.type "tuple", Option.none, PySem.Data.seq (List.toArray []) 0, List.toArray []⟩
noncomputable def ob345 (P : Params) : Obj := ⟨PySem.Value.none, Option.none, PySem.Data.fields (List.toArray []), List.toArray []⟩
noncomputable def ob346 (P : Params) : Obj := ⟨PySem.Value.type "tuple", Option.none, PySem.Data.seq (List.toArray [PySem.Value.str "cistern" 635, PySem.Value.str "high" 636, PySem.Value.str "sort" 637, PySem.Value.str "items" 638, PySem.Value.str "at" 639, PySem.Value.str "held" 640, PySem.Value.str "column" 641]) 0, List.toArray []⟩
noncomputable def ob347 (P : Params) : Obj := ⟨PySem.Value.type "tuple", Option.none, PySem.Data.seq (List.toArray []) 0, List.toArray []⟩
noncomputable def ob348 (P : Params) : Obj := ⟨PySem.Value.none, Option.none, .func ⟨"_law_column", "_law_column", (argsOf (topAt 51)), (PySem.FuncBody.stmts (bodyOf (topAt 51))), (scopeOf (topAt 51)), 0, [], PySem.Value.none, PySem.Value.none, PySem.Value.none, PySem.Value.none, Option.none, PySem.Value.none, PySem.Value.none, 0⟩, List.toArray []⟩
noncomputable def ob349 (P : Params) : Obj := ⟨PySem.Value.type "code", Option.none, PySem.Data.fields (List.toArray [PySem.Value.str "_law_column" 632, PySem.Value.str "_law_column" 633, PySem.Value.str "/claim/cut.py" 634, PySem.Value.int 301 0, PySem.Value.int 2 0, PySem.Value.int 0 0, PySem.Value.int 0 0, PySem.Value.int 3 0, PySem.Value.ref 344, PySem.Value.bool Bool.true, PySem.Value.int 181 0, PySem.Value.ref 345, PySem.Value.none, PySem.Value.ref 346, PySem.Value.ref 347, PySem.Value.ref 348, PySem.Value.int 642 0, PySem.Value.int 301 0, PySem.Value.str "/claim/cut.py" 643]), List.toArray []⟩
noncomputable def ob350 (P : Params) : Obj := ⟨PySem.Value.type "function", Option.none, .func ⟨"_law_column", "_law_column", (argsOf (topAt 51)), (PySem.FuncBody.stmts (bodyOf (topAt 51))), (scopeOf (topAt 51)), 3, [], PySem.Value.none, PySem.Value.none, PySem.Value.none, (PySem.Value.str "law_ov0066_01" 618), Option.none, (PySem.Value.ref 349), PySem.Value.none, 0⟩, List.toArray []⟩
noncomputable def ob351 (P : Params) : Obj := ⟨PySem.Value.type "tuple", Option.none, PySem.Data.seq (List.toArray []) 0, List.toArray []⟩
noncomputable def ob352 (P : Params) : Obj := ⟨PySem.Value.none, Option.none, PySem.Data.fields (List.toArray []), List.toArray []⟩
noncomputable def ob353 (P : Params) : Obj := ⟨PySem.Value.none, Option.none, .func ⟨"_law_frame", "_law_frame", (argsOf (topAt 52)), (PySem.FuncBody.stmts (bodyOf (topAt 52))), (scopeOf (topAt 52)), 0, [], PySem.Value.none, PySem.Value.none, PySem.Value.none, PySem.Value.none, Option.none, PySem.Value.none, PySem.Value.none, 0⟩, List.toArray []⟩
noncomputable def ob354 (P : Params) : Obj := ⟨PySem.Value.type "code", Option.none, PySem.Data.fields (List.toArray [PySem.Value.str "_law_frame" 645, PySem.Value.str "_law_frame" 646, PySem.Value.str "/claim/cut.py" 647, PySem.Value.int 318 0, PySem.Value.int 1 0, PySem.Value.int 0 0, PySem.Value.int 0 0, PySem.Value.int 3 0, PySem.Value.ref 351, PySem.Value.bool Bool.true, PySem.Value.int 181 0, PySem.Value.ref 352, PySem.Value.none, PySem.Value.none, PySem.Value.none, PySem.Value.ref 353, PySem.Value.int 648 0, PySem.Value.int 318 0, PySem.Value.str "/claim/cut.py" 649]), List.toArray []⟩
noncomputable def ob355 (P : Params) : Obj := ⟨PySem.Value.type "function", Option.none, .func ⟨"_law_frame", "_law_frame", (argsOf (topAt 52)), (PySem.FuncBody.stmts (bodyOf (topAt 52))), (scopeOf (topAt 52)), 3, [], PySem.Value.none, PySem.Value.none, PySem.Value.none, (PySem.Value.str "law_ov0066_01" 618), Option.none, (PySem.Value.ref 354), PySem.Value.none, 0⟩, List.toArray []⟩
noncomputable def ob356 (P : Params) : Obj := ⟨PySem.Value.type "tuple", Option.none, PySem.Data.seq (List.toArray []) 0, List.toArray []⟩
noncomputable def ob357 (P : Params) : Obj := ⟨PySem.Value.none, Option.none, PySem.Data.fields (List.toArray []), List.toArray []⟩
noncomputable def ob358 (P : Params) : Obj := ⟨PySem.Value.type "tuple", Option.none, PySem.Data.seq (List.toArray [PySem.Value.str "cistern" 654, PySem.Value.str "high" 655, PySem.Value.str "waiting" 656, PySem.Value.str "places" 657, PySem.Value.str "lap" 658]) 0, List.toArray []⟩
noncomputable def ob359 (P : Params) : Obj := ⟨PySem.Value.type "tuple", Option.none, PySem.Data.seq (List.toArray []) 0, List.toArray []⟩
noncomputable def ob360 (P : Params) : Obj := ⟨PySem.Value.none, Option.none, .func ⟨"_law_order", "_law_order", (argsOf (topAt 53)), (PySem.FuncBody.stmts (bodyOf (topAt 53))), (scopeOf (topAt 53)), 0, [], PySem.Value.none, PySem.Value.none, PySem.Value.none, PySem.Value.none, Option.none, PySem.Value.none, PySem.Value.none, 0⟩, List.toArray []⟩
noncomputable def ob361 (P : Params) : Obj := ⟨PySem.Value.type "code", Option.none, PySem.Data.fields (List.toArray [PySem.Value.str "_law_order" 651, PySem.Value.str "_law_order" 652, PySem.Value.str "/claim/cut.py" 653, PySem.Value.int 326 0, PySem.Value.int 2 0, PySem.Value.int 0 0, PySem.Value.int 0 0, PySem.Value.int 3 0, PySem.Value.ref 356, PySem.Value.bool Bool.true, PySem.Value.int 181 0, PySem.Value.ref 357, PySem.Value.none, PySem.Value.ref 358, PySem.Value.ref 359, PySem.Value.ref 360, PySem.Value.int 659 0, PySem.Value.int 326 0, PySem.Value.str "/claim/cut.py" 660]), List.toArray []⟩
noncomputable def ob362 (P : Params) : Obj := ⟨PySem.Value.type "function", Option.none, .func ⟨"_law_order", "_law_order", (argsOf (topAt 53)), (PySem.FuncBody.stmts (bodyOf (topAt 53))), (scopeOf (topAt 53)), 3, [], PySem.Value.none, PySem.Value.none, PySem.Value.none, (PySem.Value.str "law_ov0066_01" 618), Option.none, (PySem.Value.ref 361), PySem.Value.none, 0⟩, List.toArray []⟩
noncomputable def ob363 (P : Params) : Obj := ⟨PySem.Value.type "tuple", Option.none, PySem.Data.seq (List.toArray []) 0, List.toArray []⟩
noncomputable def ob364 (P : Params) : Obj := ⟨PySem.Value.none, Option.none, PySem.Data.fields (List.toArray []), List.toArray []⟩
noncomputable def ob365 (P : Params) : Obj := ⟨PySem.Value.none, Option.none, .func ⟨"_law_plain", "_law_plain", (argsOf (topAt 54)), (PySem.FuncBody.stmts (bodyOf (topAt 54))), (scopeOf (topAt 54)), 0, [], PySem.Value.none, PySem.Value.none, PySem.Value.none, PySem.Value.none, Option.none, PySem.Value.none, PySem.Value.none, 0⟩, List.toArray []⟩
noncomputable def ob366 (P : Params) : Obj := ⟨PySem.Value.type "code", Option.none, PySem.Data.fields (List.toArray [PySem.Value.str "_law_plain" 662, PySem.Value.str "_law_plain" 663, PySem.Value.str "/claim/cut.py" 664, PySem.Value.int 332 0, PySem.Value.int 1 0, PySem.Value.int 0 0, PySem.Value.int 0 0, PySem.Value.int 3 0, PySem.Value.ref 363, PySem.Value.bool Bool.true, PySem.Value.int 181 0, PySem.Value.ref 364, PySem.Value.none, PySem.Value.none, PySem.Value.none, PySem.Value.ref 365, PySem.Value.int 665 0, PySem.Value.int 332 0, PySem.Value.str "/claim/cut.py" 666]), List.toArray []⟩
noncomputable def ob367 (P : Params) : Obj := ⟨PySem.Value.type "function", Option.none, .func ⟨"_law_plain", "_law_plain", (argsOf (topAt 54)), (PySem.FuncBody.stmts (bodyOf (topAt 54))), (scopeOf (topAt 54)), 3, [], PySem.Value.none, PySem.Value.none, PySem.Value.none, (PySem.Value.str "law_ov0066_01" 618), Option.none, (PySem.Value.ref 366), PySem.Value.none, 0⟩, List.toArray []⟩
noncomputable def ob368 (P : Params) : Obj := ⟨PySem.Value.type "tuple", Option.none, PySem.Data.seq (List.toArray []) 0, List.toArray []⟩
noncomputable def ob369 (P : Params) : Obj := ⟨PySem.Value.none, Option.none, PySem.Data.fields (List.toArray []), List.toArray []⟩
noncomputable def ob370 (P : Params) : Obj := ⟨PySem.Value.none, Option.none, .func ⟨"_law_moved", "_law_moved", (argsOf (topAt 55)), (PySem.FuncBody.stmts (bodyOf (topAt 55))), (scopeOf (topAt 55)), 0, [], PySem.Value.none, PySem.Value.none, PySem.Value.none, PySem.Value.none, Option.none, PySem.Value.none, PySem.Value.none, 0⟩, List.toArray []⟩
noncomputable def ob371 (P : Params) : Obj := ⟨PySem.Value.type "code", Option.none, PySem.Data.fields (List.toArray [PySem.Value.str "_law_moved" 668, PySem.Value.str "_law_moved" 669, PySem.Value.str "/claim/cut.py" 670, PySem.Value.int 339 0, PySem.Value.int 2 0, PySem.Value.int 0 0, PySem.Value.int 0 0, PySem.Value.int 3 0, PySem.Value.ref 368, PySem.Value.bool Bool.true, PySem.Value.int 181 0, PySem.Value.ref 369, PySem.Value.none, PySem.Value.none, PySem.Value.none, PySem.Value.ref 370, PySem.Value.int 671 0, PySem.Value.int 339 0, PySem.Value.str "/claim/cut.py" 672]), List.toArray []⟩
noncomputable def ob372 (P : Params) : Obj := ⟨PySem.Value.type "function", Option.none, .func ⟨"_law_moved", "_law_moved", (argsOf (topAt 55)), (PySem.FuncBody.stmts (bodyOf (topAt 55))), (scopeOf (topAt 55)), 3, [], PySem.Value.none, PySem.Value.none, PySem.Value.none, (PySem.Value.str "law_ov0066_01" 618), Option.none, (PySem.Value.ref 371), PySem.Value.none, 0⟩, List.toArray []⟩
noncomputable def ob373 (P : Params) : Obj := ⟨PySem.Value.type "tuple", Option.none, PySem.Data.seq (List.toArray []) 0, List.toArray []⟩
noncomputable def ob374 (P : Params) : Obj := ⟨PySem.Value.none, Option.none, PySem.Data.fields (List.toArray []), List.toArray []⟩
noncomputable def ob375 (P : Params) : Obj := ⟨PySem.Value.type "tuple", Option.none, PySem.Data.seq (List.toArray [PySem.Value.str "first" 677, PySem.Value.str "second" 678, PySem.Value.str "whole_frame" 679, PySem.Value.str "one" 680, PySem.Value.str "two" 681, PySem.Value.str "columns" 682, PySem.Value.str "at" 683]) 0, List.toArray []⟩
noncomputable def ob376 (P : Params) : Obj := ⟨PySem.Value.type "tuple", Option.none, PySem.Data.seq (List.toArray []) 0, List.toArray []⟩
noncomputable def ob377 (P : Params) : Obj := ⟨PySem.Value.none, Option.none, .func ⟨"_law_joined", "_law_joined", (argsOf (topAt 56)), (PySem.FuncBody.stmts (bodyOf (topAt 56))), (scopeOf (topAt 56)), 0, [], PySem.Value.none, PySem.Value.none, PySem.Value.none, PySem.Value.none, Option.none, PySem.Value.none, PySem.Value.none, 0⟩, List.toArray []⟩
noncomputable def ob378 (P : Params) : Obj := ⟨PySem.Value.type "code", Option.none, PySem.Data.fields (List.toArray [PySem.Value.str "_law_joined" 674, PySem.Value.str "_law_joined" 675, PySem.Value.str "/claim/cut.py" 676, PySem.Value.int 343 0, PySem.Value.int 3 0, PySem.Value.int 0 0, PySem.Value.int 0 0, PySem.Value.int 3 0, PySem.Value.ref 373, PySem.Value.bool Bool.true, PySem.Value.int 181 0, PySem.Value.ref 374, PySem.Value.none, PySem.Value.ref 375, PySem.Value.ref 376, PySem.Value.ref 377, PySem.Value.int 684 0, PySem.Value.int 343 0, PySem.Value.str "/claim/cut.py" 685]), List.toArray []⟩
noncomputable def ob379 (P : Params) : Obj := ⟨PySem.Value.type "function", Option.none, .func ⟨"_law_joined", "_law_joined", (argsOf (topAt 56)), (PySem.FuncBody.stmts (bodyOf (topAt 56))), (scopeOf (topAt 56)), 3, [], PySem.Value.none, PySem.Value.none, PySem.Value.none, (PySem.Value.str "law_ov0066_01" 618), Option.none, (PySem.Value.ref 378), PySem.Value.none, 0⟩, List.toArray []⟩
noncomputable def ob380 (P : Params) : Obj := ⟨PySem.Value.type "tuple", Option.none, PySem.Data.seq (List.toArray []) 0, List.toArray []⟩
noncomputable def ob381 (P : Params) : Obj := ⟨PySem.Value.none, Option.none, PySem.Data.fields (List.toArray []), List.toArray []⟩
noncomputable def ob382 (P : Params) : Obj := ⟨PySem.Value.type "tuple", Option.none, PySem.Data.seq (List.toArray [PySem.Value.str "cistern" 690, PySem.Value.str "frame_now" 691, PySem.Value.str "high" 692, PySem.Value.str "places" 693, PySem.Value.str "lap" 694, PySem.Value.str "drawn_place" 695, PySem.Value.str "found" 696, PySem.Value.str "names" 697, PySem.Value.str "told" 698, PySem.Value.str "at" 699, PySem.Value.str "lacks" 700, PySem.Value.str "start" 701, PySem.Value.str "tail" 702, PySem.Value.str "column" 703, PySem.Value.str "due" 704]) 0, List.toArray []⟩
noncomputable def ob383 (P : Params) : Obj := ⟨PySem.Value.type "tuple", Option.none, PySem.Data.seq (List.toArray []) 0, List.toArray []⟩
noncomputable def ob384 (P : Params) : Obj := ⟨PySem.Value.none, Option.none, .func ⟨"_law_again", "_law_again", (argsOf (topAt 57)), (PySem.FuncBody.stmts (bodyOf (topAt 57))), (scopeOf (topAt 57)), 0, [], PySem.Value.none, PySem.Value.none, PySem.Value.none, PySem.Value.none, Option.none, PySem.Value.none, PySem.Value.none, 0⟩, List.toArray []⟩
noncomputable def ob385 (P : Params) : Obj := ⟨PySem.Value.type "code", Option.none, PySem.Data.fields (List.toArray [PySem.Value.str "_law_again" 687, PySem.Value.str "_law_again" 688, PySem.Value.str "/claim/cut.py" 689, PySem.Value.int 350 0, PySem.Value.int 3 0, PySem.Value.int 0 0, PySem.Value.int 0 0, PySem.Value.int 3 0, PySem.Value.ref 380, PySem.Value.bool Bool.true, PySem.Value.int 181 0, PySem.Value.ref 381, PySem.Value.none, PySem.Value.ref 382, PySem.Value.ref 383, PySem.Value.ref 384, PySem.Value.int 705 0, PySem.Value.int 350 0, PySem.Value.str "/claim/cut.py" 706]), List.toArray []⟩
noncomputable def ob386 (P : Params) : Obj := ⟨PySem.Value.type "function", Option.none, .func ⟨"_law_again", "_law_again", (argsOf (topAt 57)), (PySem.FuncBody.stmts (bodyOf (topAt 57))), (scopeOf (topAt 57)), 3, [], PySem.Value.none, PySem.Value.none, PySem.Value.none, (PySem.Value.str "law_ov0066_01" 618), Option.none, (PySem.Value.ref 385), PySem.Value.none, 0⟩, List.toArray []⟩
noncomputable def ob387 (P : Params) : Obj := ⟨PySem.Value.type "tuple", Option.none, PySem.Data.seq (List.toArray []) 0, List.toArray []⟩
noncomputable def ob388 (P : Params) : Obj := ⟨PySem.Value.none, Option.none, PySem.Data.fields (List.toArray []), List.toArray []⟩
noncomputable def ob389 (P : Params) : Obj := ⟨PySem.Value.none, Option.none, .func ⟨"law", "law", (argsOf (topAt 58)), (PySem.FuncBody.stmts (bodyOf (topAt 58))), (scopeOf (topAt 58)), 0, [], PySem.Value.none, PySem.Value.none, PySem.Value.none, PySem.Value.none, Option.none, PySem.Value.none, PySem.Value.none, 0⟩, List.toArray []⟩
noncomputable def ob390 (P : Params) : Obj := ⟨PySem.Value.type "code", Option.none, PySem.Data.fields (List.toArray [PySem.Value.str "law" 708, PySem.Value.str "law" 709, PySem.Value.str "/claim/cut.py" 710, PySem.Value.int 373 0, PySem.Value.int 1 0, PySem.Value.int 0 0, PySem.Value.int 0 0, PySem.Value.int 3 0, PySem.Value.ref 387, PySem.Value.bool Bool.true, PySem.Value.int 181 0, PySem.Value.ref 388, PySem.Value.none, PySem.Value.none, PySem.Value.none, PySem.Value.ref 389, PySem.Value.int 711 0, PySem.Value.int 373 0, PySem.Value.str "/claim/cut.py" 712]), List.toArray []⟩
noncomputable def ob391 (P : Params) : Obj := ⟨PySem.Value.type "function", Option.none, .func ⟨"law", "law", (argsOf (topAt 58)), (PySem.FuncBody.stmts (bodyOf (topAt 58))), (scopeOf (topAt 58)), 3, [], PySem.Value.none, PySem.Value.none, PySem.Value.none, (PySem.Value.str "law_ov0066_01" 618), Option.none, (PySem.Value.ref 390), PySem.Value.none, 0⟩, List.toArray []⟩
noncomputable def hEnd (P : Params) : Heap := ⟨⟨[PySem.W.boot_o_0 P, PySem.W.boot_o_1 P, PySem.W.boot_o_2 P, ob3 P, PySem.W.boot_o_4 P, PySem.W.boot_o_5 P, PySem.W.boot_o_6 P, PySem.W.boot_o_7 P, PySem.W.boot_o_8 P, PySem.W.boot_o_9 P, PySem.W.boot_o_10 P, ob11 P, ob12 P, ob13 P, ob14 P, ob15 P, ob16 P, ob17 P, ob18 P, ob19 P, ob20 P, ob21 P, ob22 P, ob23 P, ob24 P, ob25 P, ob26 P, ob27 P, ob28 P, ob29 P, ob30 P, ob31 P, ob32 P, ob33 P, ob34 P, ob35 P, ob36 P, ob37 P, ob38 P, ob39 P, ob40 P, ob41 P, ob42 P, ob43 P, ob44 P, ob45 P, ob46 P, ob47 P, ob48 P, ob49 P, ob50 P, ob51 P, ob52 P, ob53 P, ob54 P, ob55 P, ob56 P, ob57 P, ob58 P, ob59 P, ob60 P, ob61 P, ob62 P, ob63 P, ob64 P, ob65 P, ob66 P, ob67 P, ob68 P, ob69 P, ob70 P, ob71 P, ob72 P, ob73 P, ob74 P, ob75 P, ob76 P, ob77 P, ob78 P, ob79 P, ob80 P, ob81 P, ob82 P, ob83 P, ob84 P, ob85 P, ob86 P, ob87 P, ob88 P, ob89 P, ob90 P, ob91 P, ob92 P, ob93 P, ob94 P, ob95 P, ob96 P, ob97 P, ob98 P, ob99 P, ob100 P, ob101 P, ob102 P, ob103 P, ob104 P, ob105 P, ob106 P, ob107 P, ob108 P, ob109 P, ob110 P, ob111 P, ob112 P, ob113 P, ob114 P, ob115 P, ob116 P, ob117 P, ob118 P, ob119 P, ob120 P, ob121 P, ob122 P, ob123 P, ob124 P, ob125 P, ob126 P, ob127 P, ob128 P, ob129 P, ob130 P, ob131 P, ob132 P, ob133 P, ob134 P, ob135 P, ob136 P, ob137 P, ob138 P, ob139 P, ob140 P, ob141 P, ob142 P, ob143 P, ob144 P, ob145 P, ob146 P, ob147 P, ob148 P, ob149 P, ob150 P, ob151 P, ob152 P, ob153 P, ob154 P, ob155 P, ob156 P, ob157 P, ob158 P, ob159 P, ob160 P, ob161 P, ob162 P, ob163 P, ob164 P, ob165 P, ob166 P, ob167 P, ob168 P, ob169 P, ob170 P, ob171 P, ob172 P, ob173 P, ob174 P, ob175 P, ob176 P, ob177 P, ob178 P, ob179 P, ob180 P, ob181 P, ob182 P, ob183 P, ob184 P, ob185 P, ob186 P, ob187 P, ob188 P, ob189 P, ob190 P, ob191 P, ob192 P, ob193 P, ob194 P, ob195 P, ob196 P, ob197 P, ob198 P, ob199 P, ob200 P, ob201 P, ob202 P, ob203 P, ob204 P, ob205 P, ob206 P, ob207 P, ob208 P, ob209 P, ob210 P, ob211 P, ob212 P, ob213 P, ob214 P, ob215 P, ob216 P, ob217 P, ob218 P, ob219 P, ob220 P, ob221 P, ob222 P, ob223 P, ob224 P, ob225 P, ob226 P, ob227 P, ob228 P, ob229 P, ob230 P, ob231 P, ob232 P, ob233 P, ob234 P, ob235 P, ob236 P, ob237 P, ob238 P, ob239 P, ob240 P, ob241 P, ob242 P, ob243 P, ob244 P, ob245 P, ob246 P, ob247 P, ob248 P, ob249 P, ob250 P, ob251 P, ob252 P, ob253 P, ob254 P, ob255 P, ob256 P, ob257 P, ob258 P, ob259 P, ob260 P, ob261 P, ob262 P, ob263 P, ob264 P, ob265 P, ob266 P, ob267 P, ob268 P, ob269 P, ob270 P, ob271 P, ob272 P, ob273 P, ob274 P, ob275 P, ob276 P, ob277 P, ob278 P, ob279 P, ob280 P, ob281 P, ob282 P, ob283 P, ob284 P, ob285 P, ob286 P, ob287 P, ob288 P, ob289 P, ob290 P, ob291 P, ob292 P, ob293 P, ob294 P, ob295 P, ob296 P, ob297 P, ob298 P, ob299 P, ob300 P, ob301 P, ob302 P, ob303 P, ob304 P, ob305 P, ob306 P, ob307 P, ob308 P, ob309 P, ob310 P, ob311 P, ob312 P, ob313 P, ob314 P, ob315 P, ob316 P, ob317 P, ob318 P, ob319 P, ob320 P, ob321 P, ob322 P, ob323 P, ob324 P, ob325 P, ob326 P, ob327 P, ob328 P, ob329 P, ob330 P, ob331 P, ob332 P, ob333 P, ob334 P, ob335 P, ob336 P, ob337 P, ob338 P, ob339 P, ob340 P, ob341 P, ob342 P, ob343 P, ob344 P, ob345 P, ob346 P, ob347 P, ob348 P, ob349 P, ob350 P, ob351 P, ob352 P, ob353 P, ob354 P, ob355 P, ob356 P, ob357 P, ob358 P, ob359 P, ob360 P, ob361 P, ob362 P, ob363 P, ob364 P, ob365 P, ob366 P, ob367 P, ob368 P, ob369 P, ob370 P, ob371 P, ob372 P, ob373 P, ob374 P, ob375 P, ob376 P, ob377 P, ob378 P, ob379 P, ob380 P, ob381 P, ob382 P, ob383 P, ob384 P, ob385 P, ob386 P, ob387 P, ob388 P, ob389 P, ob390 P, ob391 P]⟩, { }⟩
noncomputable def hd.heap_39 (P : Params) : Frag := (nat_lit 3, ob3 P) :: (nat_lit 147, ob147 P) :: (nat_lit 153, ob153 P) :: (nat_lit 154, ob154 P) :: (nat_lit 163, ob163 P) :: (nat_lit 164, ob164 P) :: (nat_lit 174, ob174 P) :: (nat_lit 175, ob175 P) :: (nat_lit 181, ob181 P) :: (nat_lit 182, ob182 P) :: (nat_lit 195, ob195 P) :: (nat_lit 196, ob196 P) :: (nat_lit 202, ob202 P) :: (nat_lit 203, ob203 P) :: (nat_lit 209, ob209 P) :: (nat_lit 210, ob210 P) :: (nat_lit 221, ob221 P) :: (nat_lit 222, ob222 P) :: (nat_lit 226, ob226 P) :: (nat_lit 227, ob227 P) :: (nat_lit 233, ob233 P) :: (nat_lit 234, ob234 P) :: (nat_lit 252, ob252 P) :: (nat_lit 253, ob253 P) :: (nat_lit 257, ob257 P) :: (nat_lit 258, ob258 P) :: (nat_lit 264, ob264 P) :: (nat_lit 265, ob265 P) :: (nat_lit 269, ob269 P) :: (nat_lit 270, ob270 P) :: (nat_lit 276, ob276 P) :: (nat_lit 277, ob277 P) :: (nat_lit 283, ob283 P) :: (nat_lit 284, ob284 P) :: (nat_lit 290, ob290 P) :: (nat_lit 291, ob291 P) :: (nat_lit 297, ob297 P) :: (nat_lit 298, ob298 P) :: (nat_lit 302, ob302 P) :: (nat_lit 303, ob303 P) :: (nat_lit 307, ob307 P) :: (nat_lit 308, ob308 P) :: (nat_lit 314, ob314 P) :: (nat_lit 315, ob315 P) :: (nat_lit 321, ob321 P) :: (nat_lit 322, ob322 P) :: (nat_lit 328, ob328 P) :: (nat_lit 329, ob329 P) :: (nat_lit 335, ob335 P) :: (nat_lit 336, ob336 P) :: (nat_lit 342, ob342 P) :: (nat_lit 343, ob343 P) :: (nat_lit 349, ob349 P) :: (nat_lit 350, ob350 P) :: (nat_lit 354, ob354 P) :: (nat_lit 355, ob355 P) :: (nat_lit 361, ob361 P) :: (nat_lit 362, ob362 P) :: (nat_lit 366, ob366 P) :: (nat_lit 367, ob367 P) :: (nat_lit 371, ob371 P) :: (nat_lit 372, ob372 P) :: (nat_lit 378, ob378 P) :: (nat_lit 379, ob379 P) :: (nat_lit 385, ob385 P) :: (nat_lit 386, ob386 P) :: (nat_lit 390, ob390 P) :: (nat_lit 391, ob391 P) :: []
abbrev kAs : List Nat := nat_lit 3 :: nat_lit 147 :: nat_lit 153 :: nat_lit 154 :: nat_lit 163 :: nat_lit 164 :: nat_lit 174 :: nat_lit 175 :: nat_lit 181 :: nat_lit 182 :: nat_lit 195 :: nat_lit 196 :: nat_lit 202 :: nat_lit 203 :: nat_lit 209 :: nat_lit 210 :: nat_lit 221 :: nat_lit 222 :: nat_lit 226 :: nat_lit 227 :: nat_lit 233 :: nat_lit 234 :: nat_lit 252 :: nat_lit 253 :: nat_lit 257 :: nat_lit 258 :: nat_lit 264 :: nat_lit 265 :: nat_lit 269 :: nat_lit 270 :: nat_lit 276 :: nat_lit 277 :: nat_lit 283 :: nat_lit 284 :: nat_lit 290 :: nat_lit 291 :: nat_lit 297 :: nat_lit 298 :: nat_lit 302 :: nat_lit 303 :: nat_lit 307 :: nat_lit 308 :: nat_lit 314 :: nat_lit 315 :: nat_lit 321 :: nat_lit 322 :: nat_lit 328 :: nat_lit 329 :: nat_lit 335 :: nat_lit 336 :: nat_lit 342 :: nat_lit 343 :: nat_lit 349 :: nat_lit 350 :: nat_lit 354 :: nat_lit 355 :: nat_lit 361 :: nat_lit 362 :: nat_lit 366 :: nat_lit 367 :: nat_lit 371 :: nat_lit 372 :: nat_lit 378 :: nat_lit 379 :: nat_lit 385 :: nat_lit 386 :: nat_lit 390 :: nat_lit 391 :: []
noncomputable def view39 : Program := PySem.W.view prog [0, 2, 3, 5, 6, 7, 8, 9, 10, 11, 12, 13, 14, 15, 18, 19, 20, 21, 22, 23, 25, 26, 27, 28, 29, 30, 31, 32, 34, 36, 37, 38, 39, 40, 41, 42, 43, 44, 45, 46, 47, 48, 50, 51, 52, 53, 54, 55, 56, 57, 58]
noncomputable abbrev hk : Hook := kHook hd.heap_39 kAs (fun _ => by kernel_rfl)
theorem hOpen : opening prog = plainProg prog.main.scope.names := by kernel_rfl
theorem hFence : ∀ s, fenceModules? prog s = some s := fun s => by kernel_rfl
theorem hSize : ∀ w : World, ((boot_heap w.params).isNs mainGlobals && (Array.mk [] : Array GenState).size == 0, (boot_heap w.params).objs.size, (boot_heap w.params).nsMap mainGlobals "__annotations__") = (true, 11, some (Value.ref 6)) := fun w => by kernel_rfl

section
set_option maxHeartbeats 0
noncomputable def d3 (P : Params) (v : Value) (k : Nat) : Obj := match ob3 P with
  | ⟨c, d, .dict es _, s⟩ => ⟨c, d, .dict ⟨⟨PyData.keyHash P "__name__", .str "__name__" 165, v⟩ :: (es.toList.take k).drop 1⟩ k, s⟩
  | o => o
noncomputable def d12 (P : Params) (k : Nat) : Obj := match ob12 P with
  | ⟨c, d, .fields es, s⟩ => ⟨c, d, .fields ⟨es.toList.take k⟩, s⟩
  | o => o
noncomputable def tEnv : Env := { scope := prog.main.scope, locals := mainNs, globals := mainNs, cells := [], code := .ref 13, frame := some 14 }
noncomputable abbrev tBody : List Stmt := prog.main.body
noncomputable abbrev tCode : Code := .body tBody tEnv
abbrev tFr : List Frame := [topFrame ⟨0, 0, 0, 0⟩]
noncomputable def hpa (P : Params) : Heap := ⟨⟨[PySem.W.boot_o_0 P, PySem.W.boot_o_1 P, PySem.W.boot_o_2 P, d3 P (.str "__main__" 164) 9, PySem.W.boot_o_4 P, PySem.W.boot_o_5 P, PySem.W.boot_o_6 P, PySem.W.boot_o_7 P, PySem.W.boot_o_8 P, PySem.W.boot_o_9 P, PySem.W.boot_o_10 P, ob11 P, d12 P 0, ob13 P, ob14 P]⟩, { }⟩
theorem rPre (w : World) (os : OsState) : topGo treeTable prog w 11 (some (.ref 6)) 12 ⟨boot_heap w.params, Array.mk [], boot_drawn, boot_toks, os⟩ (topStub prog) = some (⟨hpa w.params, Array.mk [], {}, 187, os⟩, ⟨denote treeTable tCode, tCode, ⟨0, 0, 0, 0⟩, tFr⟩) := by kernel_rfl
noncomputable def hpb (P : Params) : BT := .node (PySem.W.boot_o_0 P) (.node (PySem.W.boot_o_1 P) (.node (d3 P (.str "__main__" 164) 9) (.node (PySem.W.boot_o_7 P) .nil .nil) (.node (ob11 P) .nil .nil)) (.node (PySem.W.boot_o_5 P) (.node (PySem.W.boot_o_9 P) .nil .nil) (.node (ob13 P) .nil .nil))) (.node (PySem.W.boot_o_2 P) (.node (PySem.W.boot_o_4 P) (.node (PySem.W.boot_o_8 P) .nil .nil) (.node (d12 P 0) .nil .nil)) (.node (PySem.W.boot_o_6 P) (.node (PySem.W.boot_o_10 P) .nil .nil) (.node (ob14 P) .nil .nil)))
theorem rBlock (w : World) (os : OsState) : segRun treeTable prog w 11 (some (.ref 6)) 1 1 ⟨hpa w.params, Array.mk [], {}, 187, os⟩ (blockOf tBody tEnv tCode ⟨0, 0, 0, 0⟩ tFr) = some (.next, (SharedT.abs ⟨hpb w.params, 15, {}, Array.mk [], {}, 187, os⟩), tCode, ⟨0, 0, 0, 0⟩) := by kernel_rfl
noncomputable def hp0 (P : Params) : BT := .node (PySem.W.boot_o_0 P) (.node (PySem.W.boot_o_1 P) (.node (d3 P (.str "vectorcove.numtext" 216) 16) (.node (PySem.W.boot_o_7 P) (.node (ob15 P) (.node (ob31 P) (.node (ob63 P) .nil .nil) .nil) (.node (ob47 P) .nil .nil)) (.node (ob23 P) (.node (ob39 P) .nil .nil) (.node (ob55 P) .nil .nil))) (.node (ob11 P) (.node (ob19 P) (.node (ob35 P) .nil .nil) (.node (ob51 P) .nil .nil)) (.node (ob27 P) (.node (ob43 P) .nil .nil) (.node (ob59 P) .nil .nil)))) (.node (PySem.W.boot_o_5 P) (.node (PySem.W.boot_o_9 P) (.node (ob17 P) (.node (ob33 P) .nil .nil) (.node (ob49 P) .nil .nil)) (.node (ob25 P) (.node (ob41 P) .nil .nil) (.node (ob57 P) .nil .nil))) (.node (ob13 P) (.node (ob21 P) (.node (ob37 P) .nil .nil) (.node (ob53 P) .nil .nil)) (.node (ob29 P) (.node (ob45 P) .nil .nil) (.node (ob61 P) .nil .nil))))) (.node (PySem.W.boot_o_2 P) (.node (PySem.W.boot_o_4 P) (.node (PySem.W.boot_o_8 P) (.node (ob16 P) (.node (ob32 P) .nil .nil) (.node (ob48 P) .nil .nil)) (.node (ob24 P) (.node (ob40 P) .nil .nil) (.node (ob56 P) .nil .nil))) (.node (d12 P 21) (.node (ob20 P) (.node (ob36 P) .nil .nil) (.node (ob52 P) .nil .nil)) (.node (ob28 P) (.node (ob44 P) .nil .nil) (.node (ob60 P) .nil .nil)))) (.node (PySem.W.boot_o_6 P) (.node (PySem.W.boot_o_10 P) (.node (ob18 P) (.node (ob34 P) .nil .nil) (.node (ob50 P) .nil .nil)) (.node (ob26 P) (.node (ob42 P) .nil .nil) (.node (ob58 P) .nil .nil))) (.node (ob14 P) (.node (ob22 P) (.node (ob38 P) .nil .nil) (.node (ob54 P) .nil .nil)) (.node (ob30 P) (.node (ob46 P) .nil .nil) (.node (ob62 P) .nil .nil)))))
noncomputable def st0 : List Stmt := (tBody.drop 0).take 9
theorem r0 (w : World) (os : OsState) : segRunT treeTable prog w 11 (some (.ref 6)) 1 237 ⟨hpb w.params, 15, {}, Array.mk [], {}, 187, os⟩ (piecesOf st0 tEnv tCode ⟨0, 0, 0, 0⟩ tFr) = some (.next, ⟨hp0 w.params, 64, {}, Array.mk [], {}, 255, os⟩, tCode, ⟨47, 0, 55, 45⟩) := by kernel_rfl
noncomputable def hp1 (P : Params) : BT := .node (PySem.W.boot_o_0 P) (.node (PySem.W.boot_o_1 P) (.node (d3 P (.str "vectorcove.numtext" 216) 24) (.node (PySem.W.boot_o_7 P) (.node (ob15 P) (.node (ob31 P) (.node (ob63 P) .nil .nil) (.node (ob95 P) .nil .nil)) (.node (ob47 P) (.node (ob79 P) .nil .nil) (.node (ob111 P) .nil .nil))) (.node (ob23 P) (.node (ob39 P) (.node (ob71 P) .nil .nil) (.node (ob103 P) .nil .nil)) (.node (ob55 P) (.node (ob87 P) .nil .nil) .nil))) (.node (ob11 P) (.node (ob19 P) (.node (ob35 P) (.node (ob67 P) .nil .nil) (.node (ob99 P) .nil .nil)) (.node (ob51 P) (.node (ob83 P) .nil .nil) (.node (ob115 P) .nil .nil))) (.node (ob27 P) (.node (ob43 P) (.node (ob75 P) .nil .nil) (.node (ob107 P) .nil .nil)) (.node (ob59 P) (.node (ob91 P) .nil .nil) .nil)))) (.node (PySem.W.boot_o_5 P) (.node (PySem.W.boot_o_9 P) (.node (ob17 P) (.node (ob33 P) (.node (ob65 P) .nil .nil) (.node (ob97 P) .nil .nil)) (.node (ob49 P) (.node (ob81 P) .nil .nil) (.node (ob113 P) .nil .nil))) (.node (ob25 P) (.node (ob41 P) (.node (ob73 P) .nil .nil) (.node (ob105 P) .nil .nil)) (.node (ob57 P) (.node (ob89 P) .nil .nil) .nil))) (.node (ob13 P) (.node (ob21 P) (.node (ob37 P) (.node (ob69 P) .nil .nil) (.node (ob101 P) .nil .nil)) (.node (ob53 P) (.node (ob85 P) .nil .nil) (.node (ob117 P) .nil .nil))) (.node (ob29 P) (.node (ob45 P) (.node (ob77 P) .nil .nil) (.node (ob109 P) .nil .nil)) (.node (ob61 P) (.node (ob93 P) .nil .nil) .nil))))) (.node (PySem.W.boot_o_2 P) (.node (PySem.W.boot_o_4 P) (.node (PySem.W.boot_o_8 P) (.node (ob16 P) (.node (ob32 P) (.node (ob64 P) .nil .nil) (.node (ob96 P) .nil .nil)) (.node (ob48 P) (.node (ob80 P) .nil .nil) (.node (ob112 P) .nil .nil))) (.node (ob24 P) (.node (ob40 P) (.node (ob72 P) .nil .nil) (.node (ob104 P) .nil .nil)) (.node (ob56 P) (.node (ob88 P) .nil .nil) .nil))) (.node (d12 P 45) (.node (ob20 P) (.node (ob36 P) (.node (ob68 P) .nil .nil) (.node (ob100 P) .nil .nil)) (.node (ob52 P) (.node (ob84 P) .nil .nil) (.node (ob116 P) .nil .nil))) (.node (ob28 P) (.node (ob44 P) (.node (ob76 P) .nil .nil) (.node (ob108 P) .nil .nil)) (.node (ob60 P) (.node (ob92 P) .nil .nil) .nil)))) (.node (PySem.W.boot_o_6 P) (.node (PySem.W.boot_o_10 P) (.node (ob18 P) (.node (ob34 P) (.node (ob66 P) .nil .nil) (.node (ob98 P) .nil .nil)) (.node (ob50 P) (.node (ob82 P) .nil .nil) (.node (ob114 P) .nil .nil))) (.node (ob26 P) (.node (ob42 P) (.node (ob74 P) .nil .nil) (.node (ob106 P) .nil .nil)) (.node (ob58 P) (.node (ob90 P) .nil .nil) .nil))) (.node (ob14 P) (.node (ob22 P) (.node (ob38 P) (.node (ob70 P) .nil .nil) (.node (ob102 P) .nil .nil)) (.node (ob54 P) (.node (ob86 P) .nil .nil) (.node (ob118 P) .nil .nil))) (.node (ob30 P) (.node (ob46 P) (.node (ob78 P) .nil .nil) (.node (ob110 P) .nil .nil)) (.node (ob62 P) (.node (ob94 P) .nil .nil) .nil)))))
noncomputable def st1 : List Stmt := (tBody.drop 9).take 8
theorem r1 (w : World) (os : OsState) : segRunT treeTable prog w 11 (some (.ref 6)) 1 260 ⟨hp0 w.params, 64, {}, Array.mk [], {}, 255, os⟩ (piecesOf st1 tEnv tCode ⟨47, 0, 55, 45⟩ tFr) = some (.next, ⟨hp1 w.params, 119, {}, Array.mk [], {}, 339, os⟩, tCode, ⟨114, 0, 115, 39⟩) := by kernel_rfl
noncomputable def hp2 (P : Params) : BT := .node (PySem.W.boot_o_0 P) (.node (PySem.W.boot_o_1 P) (.node (d3 P (.str "vectorcove.values" 339) 25) (.node (PySem.W.boot_o_7 P) (.node (ob15 P) (.node (ob31 P) (.node (ob63 P) (.node (ob127 P) .nil .nil) .nil) (.node (ob95 P) .nil .nil)) (.node (ob47 P) (.node (ob79 P) .nil .nil) (.node (ob111 P) .nil .nil))) (.node (ob23 P) (.node (ob39 P) (.node (ob71 P) (.node (ob135 P) .nil .nil) .nil) (.node (ob103 P) .nil .nil)) (.node (ob55 P) (.node (ob87 P) .nil .nil) (.node (ob119 P) .nil .nil)))) (.node (ob11 P) (.node (ob19 P) (.node (ob35 P) (.node (ob67 P) (.node (ob131 P) .nil .nil) .nil) (.node (ob99 P) .nil .nil)) (.node (ob51 P) (.node (ob83 P) .nil .nil) (.node (ob115 P) .nil .nil))) (.node (ob27 P) (.node (ob43 P) (.node (ob75 P) (.node (ob139 P) .nil .nil) .nil) (.node (ob107 P) .nil .nil)) (.node (ob59 P) (.node (ob91 P) .nil .nil) (.node (ob123 P) .nil .nil))))) (.node (PySem.W.boot_o_5 P) (.node (PySem.W.boot_o_9 P) (.node (ob17 P) (.node (ob33 P) (.node (ob65 P) (.node (ob129 P) .nil .nil) .nil) (.node (ob97 P) .nil .nil)) (.node (ob49 P) (.node (ob81 P) .nil .nil) (.node (ob113 P) .nil .nil))) (.node (ob25 P) (.node (ob41 P) (.node (ob73 P) (.node (ob137 P) .nil .nil) .nil) (.node (ob105 P) .nil .nil)) (.node (ob57 P) (.node (ob89 P) .nil .nil) (.node (ob121 P) .nil .nil)))) (.node (ob13 P) (.node (ob21 P) (.node (ob37 P) (.node (ob69 P) (.node (ob133 P) .nil .nil) .nil) (.node (ob101 P) .nil .nil)) (.node (ob53 P) (.node (ob85 P) .nil .nil) (.node (ob117 P) .nil .nil))) (.node (ob29 P) (.node (ob45 P) (.node (ob77 P) .nil .nil) (.node (ob109 P) .nil .nil)) (.node (ob61 P) (.node (ob93 P) .nil .nil) (.node (ob125 P) .nil .nil)))))) (.node (PySem.W.boot_o_2 P) (.node (PySem.W.boot_o_4 P) (.node (PySem.W.boot_o_8 P) (.node (ob16 P) (.node (ob32 P) (.node (ob64 P) (.node (ob128 P) .nil .nil) .nil) (.node (ob96 P) .nil .nil)) (.node (ob48 P) (.node (ob80 P) .nil .nil) (.node (ob112 P) .nil .nil))) (.node (ob24 P) (.node (ob40 P) (.node (ob72 P) (.node (ob136 P) .nil .nil) .nil) (.node (ob104 P) .nil .nil)) (.node (ob56 P) (.node (ob88 P) .nil .nil) (.node (ob120 P) .nil .nil)))) (.node (d12 P 48) (.node (ob20 P) (.node (ob36 P) (.node (ob68 P) (.node (ob132 P) .nil .nil) .nil) (.node (ob100 P) .nil .nil)) (.node (ob52 P) (.node (ob84 P) .nil .nil) (.node (ob116 P) .nil .nil))) (.node (ob28 P) (.node (ob44 P) (.node (ob76 P) .nil .nil) (.node (ob108 P) .nil .nil)) (.node (ob60 P) (.node (ob92 P) .nil .nil) (.node (ob124 P) .nil .nil))))) (.node (PySem.W.boot_o_6 P) (.node (PySem.W.boot_o_10 P) (.node (ob18 P) (.node (ob34 P) (.node (ob66 P) (.node (ob130 P) .nil .nil) .nil) (.node (ob98 P) .nil .nil)) (.node (ob50 P) (.node (ob82 P) .nil .nil) (.node (ob114 P) .nil .nil))) (.node (ob26 P) (.node (ob42 P) (.node (ob74 P) (.node (ob138 P) .nil .nil) .nil) (.node (ob106 P) .nil .nil)) (.node (ob58 P) (.node (ob90 P) .nil .nil) (.node (ob122 P) .nil .nil)))) (.node (ob14 P) (.node (ob22 P) (.node (ob38 P) (.node (ob70 P) (.node (ob134 P) .nil .nil) .nil) (.node (ob102 P) .nil .nil)) (.node (ob54 P) (.node (ob86 P) .nil .nil) (.node (ob118 P) .nil .nil))) (.node (ob30 P) (.node (ob46 P) (.node (ob78 P) .nil .nil) (.node (ob110 P) .nil .nil)) (.node (ob62 P) (.node (ob94 P) .nil .nil) (.node (ob126 P) .nil .nil))))))
noncomputable def st2 : List Stmt := (tBody.drop 17).take 2
theorem r2 (w : World) (os : OsState) : segRunT treeTable prog w 11 (some (.ref 6)) 1 232 ⟨hp1 w.params, 119, {}, Array.mk [], {}, 339, os⟩ (piecesOf st2 tEnv tCode ⟨114, 0, 115, 39⟩ tFr) = some (.next, ⟨hp2 w.params, 140, {}, Array.mk [], {}, 370, os⟩, tCode, ⟨117, 0, 121, 25⟩) := by kernel_rfl
noncomputable def hp3 (P : Params) : BT := .node (PySem.W.boot_o_0 P) (.node (PySem.W.boot_o_1 P) (.node (d3 P (.str "vectorcove.values" 339) 26) (.node (PySem.W.boot_o_7 P) (.node (ob15 P) (.node (ob31 P) (.node (ob63 P) (.node (ob127 P) .nil .nil) .nil) (.node (ob95 P) (.node (ob159 P) .nil .nil) .nil)) (.node (ob47 P) (.node (ob79 P) (.node (ob143 P) .nil .nil) .nil) (.node (ob111 P) .nil .nil))) (.node (ob23 P) (.node (ob39 P) (.node (ob71 P) (.node (ob135 P) .nil .nil) .nil) (.node (ob103 P) (.node (ob167 P) .nil .nil) .nil)) (.node (ob55 P) (.node (ob87 P) (.node (ob151 P) .nil .nil) .nil) (.node (ob119 P) .nil .nil)))) (.node (ob11 P) (.node (ob19 P) (.node (ob35 P) (.node (ob67 P) (.node (ob131 P) .nil .nil) .nil) (.node (ob99 P) (.node (ob163 P) .nil .nil) .nil)) (.node (ob51 P) (.node (ob83 P) (.node (ob147 P) .nil .nil) .nil) (.node (ob115 P) .nil .nil))) (.node (ob27 P) (.node (ob43 P) (.node (ob75 P) (.node (ob139 P) .nil .nil) .nil) (.node (ob107 P) .nil .nil)) (.node (ob59 P) (.node (ob91 P) (.node (ob155 P) .nil .nil) .nil) (.node (ob123 P) .nil .nil))))) (.node (PySem.W.boot_o_5 P) (.node (PySem.W.boot_o_9 P) (.node (ob17 P) (.node (ob33 P) (.node (ob65 P) (.node (ob129 P) .nil .nil) .nil) (.node (ob97 P) (.node (ob161 P) .nil .nil) .nil)) (.node (ob49 P) (.node (ob81 P) (.node (ob145 P) .nil .nil) .nil) (.node (ob113 P) .nil .nil))) (.node (ob25 P) (.node (ob41 P) (.node (ob73 P) (.node (ob137 P) .nil .nil) .nil) (.node (ob105 P) .nil .nil)) (.node (ob57 P) (.node (ob89 P) (.node (ob153 P) .nil .nil) .nil) (.node (ob121 P) .nil .nil)))) (.node (ob13 P) (.node (ob21 P) (.node (ob37 P) (.node (ob69 P) (.node (ob133 P) .nil .nil) .nil) (.node (ob101 P) (.node (ob165 P) .nil .nil) .nil)) (.node (ob53 P) (.node (ob85 P) (.node (ob149 P) .nil .nil) .nil) (.node (ob117 P) .nil .nil))) (.node (ob29 P) (.node (ob45 P) (.node (ob77 P) (.node (ob141 P) .nil .nil) .nil) (.node (ob109 P) .nil .nil)) (.node (ob61 P) (.node (ob93 P) (.node (ob157 P) .nil .nil) .nil) (.node (ob125 P) .nil .nil)))))) (.node (PySem.W.boot_o_2 P) (.node (PySem.W.boot_o_4 P) (.node (PySem.W.boot_o_8 P) (.node (ob16 P) (.node (ob32 P) (.node (ob64 P) (.node (ob128 P) .nil .nil) .nil) (.node (ob96 P) (.node (ob160 P) .nil .nil) .nil)) (.node (ob48 P) (.node (ob80 P) (.node (ob144 P) .nil .nil) .nil) (.node (ob112 P) .nil .nil))) (.node (ob24 P) (.node (ob40 P) (.node (ob72 P) (.node (ob136 P) .nil .nil) .nil) (.node (ob104 P) (.node (ob168 P) .nil .nil) .nil)) (.node (ob56 P) (.node (ob88 P) (.node (ob152 P) .nil .nil) .nil) (.node (ob120 P) .nil .nil)))) (.node (d12 P 51) (.node (ob20 P) (.node (ob36 P) (.node (ob68 P) (.node (ob132 P) .nil .nil) .nil) (.node (ob100 P) (.node (ob164 P) .nil .nil) .nil)) (.node (ob52 P) (.node (ob84 P) (.node (ob148 P) .nil .nil) .nil) (.node (ob116 P) .nil .nil))) (.node (ob28 P) (.node (ob44 P) (.node (ob76 P) (.node (ob140 P) .nil .nil) .nil) (.node (ob108 P) .nil .nil)) (.node (ob60 P) (.node (ob92 P) (.node (ob156 P) .nil .nil) .nil) (.node (ob124 P) .nil .nil))))) (.node (PySem.W.boot_o_6 P) (.node (PySem.W.boot_o_10 P) (.node (ob18 P) (.node (ob34 P) (.node (ob66 P) (.node (ob130 P) .nil .nil) .nil) (.node (ob98 P) (.node (ob162 P) .nil .nil) .nil)) (.node (ob50 P) (.node (ob82 P) (.node (ob146 P) .nil .nil) .nil) (.node (ob114 P) .nil .nil))) (.node (ob26 P) (.node (ob42 P) (.node (ob74 P) (.node (ob138 P) .nil .nil) .nil) (.node (ob106 P) .nil .nil)) (.node (ob58 P) (.node (ob90 P) (.node (ob154 P) .nil .nil) .nil) (.node (ob122 P) .nil .nil)))) (.node (ob14 P) (.node (ob22 P) (.node (ob38 P) (.node (ob70 P) (.node (ob134 P) .nil .nil) .nil) (.node (ob102 P) (.node (ob166 P) .nil .nil) .nil)) (.node (ob54 P) (.node (ob86 P) (.node (ob150 P) .nil .nil) .nil) (.node (ob118 P) .nil .nil))) (.node (ob30 P) (.node (ob46 P) (.node (ob78 P) (.node (ob142 P) .nil .nil) .nil) (.node (ob110 P) .nil .nil)) (.node (ob62 P) (.node (ob94 P) (.node (ob158 P) .nil .nil) .nil) (.node (ob126 P) .nil .nil))))))
noncomputable def st3 : List Stmt := (tBody.drop 19).take 1
theorem r3 (w : World) (os : OsState) : segRunT treeTable prog w 11 (some (.ref 6)) 1 261 ⟨hp2 w.params, 140, {}, Array.mk [], {}, 370, os⟩ (piecesOf st3 tEnv tCode ⟨117, 0, 121, 25⟩ tFr) = some (.next, ⟨hp3 w.params, 169, {}, Array.mk [], {}, 412, os⟩, tCode, ⟨122, 0, 132, 16⟩) := by kernel_rfl
noncomputable def hp4 (P : Params) : BT := .node (PySem.W.boot_o_0 P) (.node (PySem.W.boot_o_1 P) (.node (d3 P (.str "vectorcove.attrs" 440) 34) (.node (PySem.W.boot_o_7 P) (.node (ob15 P) (.node (ob31 P) (.node (ob63 P) (.node (ob127 P) .nil .nil) (.node (ob191 P) .nil .nil)) (.node (ob95 P) (.node (ob159 P) .nil .nil) .nil)) (.node (ob47 P) (.node (ob79 P) (.node (ob143 P) .nil .nil) (.node (ob207 P) .nil .nil)) (.node (ob111 P) (.node (ob175 P) .nil .nil) .nil))) (.node (ob23 P) (.node (ob39 P) (.node (ob71 P) (.node (ob135 P) .nil .nil) (.node (ob199 P) .nil .nil)) (.node (ob103 P) (.node (ob167 P) .nil .nil) .nil)) (.node (ob55 P) (.node (ob87 P) (.node (ob151 P) .nil .nil) (.node (ob215 P) .nil .nil)) (.node (ob119 P) (.node (ob183 P) .nil .nil) .nil)))) (.node (ob11 P) (.node (ob19 P) (.node (ob35 P) (.node (ob67 P) (.node (ob131 P) .nil .nil) (.node (ob195 P) .nil .nil)) (.node (ob99 P) (.node (ob163 P) .nil .nil) .nil)) (.node (ob51 P) (.node (ob83 P) (.node (ob147 P) .nil .nil) (.node (ob211 P) .nil .nil)) (.node (ob115 P) (.node (ob179 P) .nil .nil) .nil))) (.node (ob27 P) (.node (ob43 P) (.node (ob75 P) (.node (ob139 P) .nil .nil) (.node (ob203 P) .nil .nil)) (.node (ob107 P) (.node (ob171 P) .nil .nil) .nil)) (.node (ob59 P) (.node (ob91 P) (.node (ob155 P) .nil .nil) (.node (ob219 P) .nil .nil)) (.node (ob123 P) (.node (ob187 P) .nil .nil) .nil))))) (.node (PySem.W.boot_o_5 P) (.node (PySem.W.boot_o_9 P) (.node (ob17 P) (.node (ob33 P) (.node (ob65 P) (.node (ob129 P) .nil .nil) (.node (ob193 P) .nil .nil)) (.node (ob97 P) (.node (ob161 P) .nil .nil) .nil)) (.node (ob49 P) (.node (ob81 P) (.node (ob145 P) .nil .nil) (.node (ob209 P) .nil .nil)) (.node (ob113 P) (.node (ob177 P) .nil .nil) .nil))) (.node (ob25 P) (.node (ob41 P) (.node (ob73 P) (.node (ob137 P) .nil .nil) (.node (ob201 P) .nil .nil)) (.node (ob105 P) (.node (ob169 P) .nil .nil) .nil)) (.node (ob57 P) (.node (ob89 P) (.node (ob153 P) .nil .nil) (.node (ob217 P) .nil .nil)) (.node (ob121 P) (.node (ob185 P) .nil .nil) .nil)))) (.node (ob13 P) (.node (ob21 P) (.node (ob37 P) (.node (ob69 P) (.node (ob133 P) .nil .nil) (.node (ob197 P) .nil .nil)) (.node (ob101 P) (.node (ob165 P) .nil .nil) .nil)) (.node (ob53 P) (.node (ob85 P) (.node (ob149 P) .nil .nil) (.node (ob213 P) .nil .nil)) (.node (ob117 P) (.node (ob181 P) .nil .nil) .nil))) (.node (ob29 P) (.node (ob45 P) (.node (ob77 P) (.node (ob141 P) .nil .nil) (.node (ob205 P) .nil .nil)) (.node (ob109 P) (.node (ob173 P) .nil .nil) .nil)) (.node (ob61 P) (.node (ob93 P) (.node (ob157 P) .nil .nil) (.node (ob221 P) .nil .nil)) (.node (ob125 P) (.node (ob189 P) .nil .nil) .nil)))))) (.node (PySem.W.boot_o_2 P) (.node (PySem.W.boot_o_4 P) (.node (PySem.W.boot_o_8 P) (.node (ob16 P) (.node (ob32 P) (.node (ob64 P) (.node (ob128 P) .nil .nil) (.node (ob192 P) .nil .nil)) (.node (ob96 P) (.node (ob160 P) .nil .nil) .nil)) (.node (ob48 P) (.node (ob80 P) (.node (ob144 P) .nil .nil) (.node (ob208 P) .nil .nil)) (.node (ob112 P) (.node (ob176 P) .nil .nil) .nil))) (.node (ob24 P) (.node (ob40 P) (.node (ob72 P) (.node (ob136 P) .nil .nil) (.node (ob200 P) .nil .nil)) (.node (ob104 P) (.node (ob168 P) .nil .nil) .nil)) (.node (ob56 P) (.node (ob88 P) (.node (ob152 P) .nil .nil) (.node (ob216 P) .nil .nil)) (.node (ob120 P) (.node (ob184 P) .nil .nil) .nil)))) (.node (d12 P 75) (.node (ob20 P) (.node (ob36 P) (.node (ob68 P) (.node (ob132 P) .nil .nil) (.node (ob196 P) .nil .nil)) (.node (ob100 P) (.node (ob164 P) .nil .nil) .nil)) (.node (ob52 P) (.node (ob84 P) (.node (ob148 P) .nil .nil) (.node (ob212 P) .nil .nil)) (.node (ob116 P) (.node (ob180 P) .nil .nil) .nil))) (.node (ob28 P) (.node (ob44 P) (.node (ob76 P) (.node (ob140 P) .nil .nil) (.node (ob204 P) .nil .nil)) (.node (ob108 P) (.node (ob172 P) .nil .nil) .nil)) (.node (ob60 P) (.node (ob92 P) (.node (ob156 P) .nil .nil) (.node (ob220 P) .nil .nil)) (.node (ob124 P) (.node (ob188 P) .nil .nil) .nil))))) (.node (PySem.W.boot_o_6 P) (.node (PySem.W.boot_o_10 P) (.node (ob18 P) (.node (ob34 P) (.node (ob66 P) (.node (ob130 P) .nil .nil) (.node (ob194 P) .nil .nil)) (.node (ob98 P) (.node (ob162 P) .nil .nil) .nil)) (.node (ob50 P) (.node (ob82 P) (.node (ob146 P) .nil .nil) (.node (ob210 P) .nil .nil)) (.node (ob114 P) (.node (ob178 P) .nil .nil) .nil))) (.node (ob26 P) (.node (ob42 P) (.node (ob74 P) (.node (ob138 P) .nil .nil) (.node (ob202 P) .nil .nil)) (.node (ob106 P) (.node (ob170 P) .nil .nil) .nil)) (.node (ob58 P) (.node (ob90 P) (.node (ob154 P) .nil .nil) (.node (ob218 P) .nil .nil)) (.node (ob122 P) (.node (ob186 P) .nil .nil) .nil)))) (.node (ob14 P) (.node (ob22 P) (.node (ob38 P) (.node (ob70 P) (.node (ob134 P) .nil .nil) (.node (ob198 P) .nil .nil)) (.node (ob102 P) (.node (ob166 P) .nil .nil) .nil)) (.node (ob54 P) (.node (ob86 P) (.node (ob150 P) .nil .nil) (.node (ob214 P) .nil .nil)) (.node (ob118 P) (.node (ob182 P) .nil .nil) .nil))) (.node (ob30 P) (.node (ob46 P) (.node (ob78 P) (.node (ob142 P) .nil .nil) (.node (ob206 P) .nil .nil)) (.node (ob110 P) (.node (ob174 P) .nil .nil) .nil)) (.node (ob62 P) (.node (ob94 P) (.node (ob158 P) .nil .nil) (.node (ob222 P) .nil .nil)) (.node (ob126 P) (.node (ob190 P) .nil .nil) .nil))))))
noncomputable def st4 : List Stmt := (tBody.drop 20).take 9
theorem r4 (w : World) (os : OsState) : segRunT treeTable prog w 11 (some (.ref 6)) 1 242 ⟨hp3 w.params, 169, {}, Array.mk [], {}, 412, os⟩ (piecesOf st4 tEnv tCode ⟨122, 0, 132, 16⟩ tFr) = some (.next, ⟨hp4 w.params, 223, {}, Array.mk [], {}, 472, os⟩, tCode, ⟨160, 0, 165, 65⟩) := by kernel_rfl
noncomputable def hp5 (P : Params) : BT := .node (PySem.W.boot_o_0 P) (.node (PySem.W.boot_o_1 P) (.node (d3 P (.str "vectorcove.frames" 517) 42) (.node (PySem.W.boot_o_7 P) (.node (ob15 P) (.node (ob31 P) (.node (ob63 P) (.node (ob127 P) (.node (ob255 P) .nil .nil) .nil) (.node (ob191 P) .nil .nil)) (.node (ob95 P) (.node (ob159 P) .nil .nil) (.node (ob223 P) .nil .nil))) (.node (ob47 P) (.node (ob79 P) (.node (ob143 P) .nil .nil) (.node (ob207 P) .nil .nil)) (.node (ob111 P) (.node (ob175 P) .nil .nil) (.node (ob239 P) .nil .nil)))) (.node (ob23 P) (.node (ob39 P) (.node (ob71 P) (.node (ob135 P) (.node (ob263 P) .nil .nil) .nil) (.node (ob199 P) .nil .nil)) (.node (ob103 P) (.node (ob167 P) .nil .nil) (.node (ob231 P) .nil .nil))) (.node (ob55 P) (.node (ob87 P) (.node (ob151 P) .nil .nil) (.node (ob215 P) .nil .nil)) (.node (ob119 P) (.node (ob183 P) .nil .nil) (.node (ob247 P) .nil .nil))))) (.node (ob11 P) (.node (ob19 P) (.node (ob35 P) (.node (ob67 P) (.node (ob131 P) (.node (ob259 P) .nil .nil) .nil) (.node (ob195 P) .nil .nil)) (.node (ob99 P) (.node (ob163 P) .nil .nil) (.node (ob227 P) .nil .nil))) (.node (ob51 P) (.node (ob83 P) (.node (ob147 P) .nil .nil) (.node (ob211 P) .nil .nil)) (.node (ob115 P) (.node (ob179 P) .nil .nil) (.node (ob243 P) .nil .nil)))) (.node (ob27 P) (.node (ob43 P) (.node (ob75 P) (.node (ob139 P) (.node (ob267 P) .nil .nil) .nil) (.node (ob203 P) .nil .nil)) (.node (ob107 P) (.node (ob171 P) .nil .nil) (.node (ob235 P) .nil .nil))) (.node (ob59 P) (.node (ob91 P) (.node (ob155 P) .nil .nil) (.node (ob219 P) .nil .nil)) (.node (ob123 P) (.node (ob187 P) .nil .nil) (.node (ob251 P) .nil .nil)))))) (.node (PySem.W.boot_o_5 P) (.node (PySem.W.boot_o_9 P) (.node (ob17 P) (.node (ob33 P) (.node (ob65 P) (.node (ob129 P) (.node (ob257 P) .nil .nil) .nil) (.node (ob193 P) .nil .nil)) (.node (ob97 P) (.node (ob161 P) .nil .nil) (.node (ob225 P) .nil .nil))) (.node (ob49 P) (.node (ob81 P) (.node (ob145 P) .nil .nil) (.node (ob209 P) .nil .nil)) (.node (ob113 P) (.node (ob177 P) .nil .nil) (.node (ob241 P) .nil .nil)))) (.node (ob25 P) (.node (ob41 P) (.node (ob73 P) (.node (ob137 P) (.node (ob265 P) .nil .nil) .nil) (.node (ob201 P) .nil .nil)) (.node (ob105 P) (.node (ob169 P) .nil .nil) (.node (ob233 P) .nil .nil))) (.node (ob57 P) (.node (ob89 P) (.node (ob153 P) .nil .nil) (.node (ob217 P) .nil .nil)) (.node (ob121 P) (.node (ob185 P) .nil .nil) (.node (ob249 P) .nil .nil))))) (.node (ob13 P) (.node (ob21 P) (.node (ob37 P) (.node (ob69 P) (.node (ob133 P) (.node (ob261 P) .nil .nil) .nil) (.node (ob197 P) .nil .nil)) (.node (ob101 P) (.node (ob165 P) .nil .nil) (.node (ob229 P) .nil .nil))) (.node (ob53 P) (.node (ob85 P) (.node (ob149 P) .nil .nil) (.node (ob213 P) .nil .nil)) (.node (ob117 P) (.node (ob181 P) .nil .nil) (.node (ob245 P) .nil .nil)))) (.node (ob29 P) (.node (ob45 P) (.node (ob77 P) (.node (ob141 P) (.node (ob269 P) .nil .nil) .nil) (.node (ob205 P) .nil .nil)) (.node (ob109 P) (.node (ob173 P) .nil .nil) (.node (ob237 P) .nil .nil))) (.node (ob61 P) (.node (ob93 P) (.node (ob157 P) .nil .nil) (.node (ob221 P) .nil .nil)) (.node (ob125 P) (.node (ob189 P) .nil .nil) (.node (ob253 P) .nil .nil))))))) (.node (PySem.W.boot_o_2 P) (.node (PySem.W.boot_o_4 P) (.node (PySem.W.boot_o_8 P) (.node (ob16 P) (.node (ob32 P) (.node (ob64 P) (.node (ob128 P) (.node (ob256 P) .nil .nil) .nil) (.node (ob192 P) .nil .nil)) (.node (ob96 P) (.node (ob160 P) .nil .nil) (.node (ob224 P) .nil .nil))) (.node (ob48 P) (.node (ob80 P) (.node (ob144 P) .nil .nil) (.node (ob208 P) .nil .nil)) (.node (ob112 P) (.node (ob176 P) .nil .nil) (.node (ob240 P) .nil .nil)))) (.node (ob24 P) (.node (ob40 P) (.node (ob72 P) (.node (ob136 P) (.node (ob264 P) .nil .nil) .nil) (.node (ob200 P) .nil .nil)) (.node (ob104 P) (.node (ob168 P) .nil .nil) (.node (ob232 P) .nil .nil))) (.node (ob56 P) (.node (ob88 P) (.node (ob152 P) .nil .nil) (.node (ob216 P) .nil .nil)) (.node (ob120 P) (.node (ob184 P) .nil .nil) (.node (ob248 P) .nil .nil))))) (.node (d12 P 99) (.node (ob20 P) (.node (ob36 P) (.node (ob68 P) (.node (ob132 P) (.node (ob260 P) .nil .nil) .nil) (.node (ob196 P) .nil .nil)) (.node (ob100 P) (.node (ob164 P) .nil .nil) (.node (ob228 P) .nil .nil))) (.node (ob52 P) (.node (ob84 P) (.node (ob148 P) .nil .nil) (.node (ob212 P) .nil .nil)) (.node (ob116 P) (.node (ob180 P) .nil .nil) (.node (ob244 P) .nil .nil)))) (.node (ob28 P) (.node (ob44 P) (.node (ob76 P) (.node (ob140 P) (.node (ob268 P) .nil .nil) .nil) (.node (ob204 P) .nil .nil)) (.node (ob108 P) (.node (ob172 P) .nil .nil) (.node (ob236 P) .nil .nil))) (.node (ob60 P) (.node (ob92 P) (.node (ob156 P) .nil .nil) (.node (ob220 P) .nil .nil)) (.node (ob124 P) (.node (ob188 P) .nil .nil) (.node (ob252 P) .nil .nil)))))) (.node (PySem.W.boot_o_6 P) (.node (PySem.W.boot_o_10 P) (.node (ob18 P) (.node (ob34 P) (.node (ob66 P) (.node (ob130 P) (.node (ob258 P) .nil .nil) .nil) (.node (ob194 P) .nil .nil)) (.node (ob98 P) (.node (ob162 P) .nil .nil) (.node (ob226 P) .nil .nil))) (.node (ob50 P) (.node (ob82 P) (.node (ob146 P) .nil .nil) (.node (ob210 P) .nil .nil)) (.node (ob114 P) (.node (ob178 P) .nil .nil) (.node (ob242 P) .nil .nil)))) (.node (ob26 P) (.node (ob42 P) (.node (ob74 P) (.node (ob138 P) (.node (ob266 P) .nil .nil) .nil) (.node (ob202 P) .nil .nil)) (.node (ob106 P) (.node (ob170 P) .nil .nil) (.node (ob234 P) .nil .nil))) (.node (ob58 P) (.node (ob90 P) (.node (ob154 P) .nil .nil) (.node (ob218 P) .nil .nil)) (.node (ob122 P) (.node (ob186 P) .nil .nil) (.node (ob250 P) .nil .nil))))) (.node (ob14 P) (.node (ob22 P) (.node (ob38 P) (.node (ob70 P) (.node (ob134 P) (.node (ob262 P) .nil .nil) .nil) (.node (ob198 P) .nil .nil)) (.node (ob102 P) (.node (ob166 P) .nil .nil) (.node (ob230 P) .nil .nil))) (.node (ob54 P) (.node (ob86 P) (.node (ob150 P) .nil .nil) (.node (ob214 P) .nil .nil)) (.node (ob118 P) (.node (ob182 P) .nil .nil) (.node (ob246 P) .nil .nil)))) (.node (ob30 P) (.node (ob46 P) (.node (ob78 P) (.node (ob142 P) (.node (ob270 P) .nil .nil) .nil) (.node (ob206 P) .nil .nil)) (.node (ob110 P) (.node (ob174 P) .nil .nil) (.node (ob238 P) .nil .nil))) (.node (ob62 P) (.node (ob94 P) (.node (ob158 P) .nil .nil) (.node (ob222 P) .nil .nil)) (.node (ob126 P) (.node (ob190 P) .nil .nil) (.node (ob254 P) .nil .nil)))))))
noncomputable def st5 : List Stmt := (tBody.drop 29).take 10
theorem r5 (w : World) (os : OsState) : segRunT treeTable prog w 11 (some (.ref 6)) 1 249 ⟨hp4 w.params, 223, {}, Array.mk [], {}, 472, os⟩ (piecesOf st5 tEnv tCode ⟨160, 0, 165, 65⟩ tFr) = some (.next, ⟨hp5 w.params, 271, {}, Array.mk [], {}, 538, os⟩, tCode, ⟨228, 0, 230, 86⟩) := by kernel_rfl
noncomputable def hp6 (P : Params) : BT := .node (PySem.W.boot_o_0 P) (.node (PySem.W.boot_o_1 P) (.node (d3 P (.str "vectorcove.frames" 517) 50) (.node (PySem.W.boot_o_7 P) (.node (ob15 P) (.node (ob31 P) (.node (ob63 P) (.node (ob127 P) (.node (ob255 P) .nil .nil) .nil) (.node (ob191 P) (.node (ob319 P) .nil .nil) .nil)) (.node (ob95 P) (.node (ob159 P) (.node (ob287 P) .nil .nil) .nil) (.node (ob223 P) .nil .nil))) (.node (ob47 P) (.node (ob79 P) (.node (ob143 P) (.node (ob271 P) .nil .nil) .nil) (.node (ob207 P) .nil .nil)) (.node (ob111 P) (.node (ob175 P) (.node (ob303 P) .nil .nil) .nil) (.node (ob239 P) .nil .nil)))) (.node (ob23 P) (.node (ob39 P) (.node (ob71 P) (.node (ob135 P) (.node (ob263 P) .nil .nil) .nil) (.node (ob199 P) .nil .nil)) (.node (ob103 P) (.node (ob167 P) (.node (ob295 P) .nil .nil) .nil) (.node (ob231 P) .nil .nil))) (.node (ob55 P) (.node (ob87 P) (.node (ob151 P) (.node (ob279 P) .nil .nil) .nil) (.node (ob215 P) .nil .nil)) (.node (ob119 P) (.node (ob183 P) (.node (ob311 P) .nil .nil) .nil) (.node (ob247 P) .nil .nil))))) (.node (ob11 P) (.node (ob19 P) (.node (ob35 P) (.node (ob67 P) (.node (ob131 P) (.node (ob259 P) .nil .nil) .nil) (.node (ob195 P) .nil .nil)) (.node (ob99 P) (.node (ob163 P) (.node (ob291 P) .nil .nil) .nil) (.node (ob227 P) .nil .nil))) (.node (ob51 P) (.node (ob83 P) (.node (ob147 P) (.node (ob275 P) .nil .nil) .nil) (.node (ob211 P) .nil .nil)) (.node (ob115 P) (.node (ob179 P) (.node (ob307 P) .nil .nil) .nil) (.node (ob243 P) .nil .nil)))) (.node (ob27 P) (.node (ob43 P) (.node (ob75 P) (.node (ob139 P) (.node (ob267 P) .nil .nil) .nil) (.node (ob203 P) .nil .nil)) (.node (ob107 P) (.node (ob171 P) (.node (ob299 P) .nil .nil) .nil) (.node (ob235 P) .nil .nil))) (.node (ob59 P) (.node (ob91 P) (.node (ob155 P) (.node (ob283 P) .nil .nil) .nil) (.node (ob219 P) .nil .nil)) (.node (ob123 P) (.node (ob187 P) (.node (ob315 P) .nil .nil) .nil) (.node (ob251 P) .nil .nil)))))) (.node (PySem.W.boot_o_5 P) (.node (PySem.W.boot_o_9 P) (.node (ob17 P) (.node (ob33 P) (.node (ob65 P) (.node (ob129 P) (.node (ob257 P) .nil .nil) .nil) (.node (ob193 P) (.node (ob321 P) .nil .nil) .nil)) (.node (ob97 P) (.node (ob161 P) (.node (ob289 P) .nil .nil) .nil) (.node (ob225 P) .nil .nil))) (.node (ob49 P) (.node (ob81 P) (.node (ob145 P) (.node (ob273 P) .nil .nil) .nil) (.node (ob209 P) .nil .nil)) (.node (ob113 P) (.node (ob177 P) (.node (ob305 P) .nil .nil) .nil) (.node (ob241 P) .nil .nil)))) (.node (ob25 P) (.node (ob41 P) (.node (ob73 P) (.node (ob137 P) (.node (ob265 P) .nil .nil) .nil) (.node (ob201 P) .nil .nil)) (.node (ob105 P) (.node (ob169 P) (.node (ob297 P) .nil .nil) .nil) (.node (ob233 P) .nil .nil))) (.node (ob57 P) (.node (ob89 P) (.node (ob153 P) (.node (ob281 P) .nil .nil) .nil) (.node (ob217 P) .nil .nil)) (.node (ob121 P) (.node (ob185 P) (.node (ob313 P) .nil .nil) .nil) (.node (ob249 P) .nil .nil))))) (.node (ob13 P) (.node (ob21 P) (.node (ob37 P) (.node (ob69 P) (.node (ob133 P) (.node (ob261 P) .nil .nil) .nil) (.node (ob197 P) .nil .nil)) (.node (ob101 P) (.node (ob165 P) (.node (ob293 P) .nil .nil) .nil) (.node (ob229 P) .nil .nil))) (.node (ob53 P) (.node (ob85 P) (.node (ob149 P) (.node (ob277 P) .nil .nil) .nil) (.node (ob213 P) .nil .nil)) (.node (ob117 P) (.node (ob181 P) (.node (ob309 P) .nil .nil) .nil) (.node (ob245 P) .nil .nil)))) (.node (ob29 P) (.node (ob45 P) (.node (ob77 P) (.node (ob141 P) (.node (ob269 P) .nil .nil) .nil) (.node (ob205 P) .nil .nil)) (.node (ob109 P) (.node (ob173 P) (.node (ob301 P) .nil .nil) .nil) (.node (ob237 P) .nil .nil))) (.node (ob61 P) (.node (ob93 P) (.node (ob157 P) (.node (ob285 P) .nil .nil) .nil) (.node (ob221 P) .nil .nil)) (.node (ob125 P) (.node (ob189 P) (.node (ob317 P) .nil .nil) .nil) (.node (ob253 P) .nil .nil))))))) (.node (PySem.W.boot_o_2 P) (.node (PySem.W.boot_o_4 P) (.node (PySem.W.boot_o_8 P) (.node (ob16 P) (.node (ob32 P) (.node (ob64 P) (.node (ob128 P) (.node (ob256 P) .nil .nil) .nil) (.node (ob192 P) (.node (ob320 P) .nil .nil) .nil)) (.node (ob96 P) (.node (ob160 P) (.node (ob288 P) .nil .nil) .nil) (.node (ob224 P) .nil .nil))) (.node (ob48 P) (.node (ob80 P) (.node (ob144 P) (.node (ob272 P) .nil .nil) .nil) (.node (ob208 P) .nil .nil)) (.node (ob112 P) (.node (ob176 P) (.node (ob304 P) .nil .nil) .nil) (.node (ob240 P) .nil .nil)))) (.node (ob24 P) (.node (ob40 P) (.node (ob72 P) (.node (ob136 P) (.node (ob264 P) .nil .nil) .nil) (.node (ob200 P) .nil .nil)) (.node (ob104 P) (.node (ob168 P) (.node (ob296 P) .nil .nil) .nil) (.node (ob232 P) .nil .nil))) (.node (ob56 P) (.node (ob88 P) (.node (ob152 P) (.node (ob280 P) .nil .nil) .nil) (.node (ob216 P) .nil .nil)) (.node (ob120 P) (.node (ob184 P) (.node (ob312 P) .nil .nil) .nil) (.node (ob248 P) .nil .nil))))) (.node (d12 P 123) (.node (ob20 P) (.node (ob36 P) (.node (ob68 P) (.node (ob132 P) (.node (ob260 P) .nil .nil) .nil) (.node (ob196 P) .nil .nil)) (.node (ob100 P) (.node (ob164 P) (.node (ob292 P) .nil .nil) .nil) (.node (ob228 P) .nil .nil))) (.node (ob52 P) (.node (ob84 P) (.node (ob148 P) (.node (ob276 P) .nil .nil) .nil) (.node (ob212 P) .nil .nil)) (.node (ob116 P) (.node (ob180 P) (.node (ob308 P) .nil .nil) .nil) (.node (ob244 P) .nil .nil)))) (.node (ob28 P) (.node (ob44 P) (.node (ob76 P) (.node (ob140 P) (.node (ob268 P) .nil .nil) .nil) (.node (ob204 P) .nil .nil)) (.node (ob108 P) (.node (ob172 P) (.node (ob300 P) .nil .nil) .nil) (.node (ob236 P) .nil .nil))) (.node (ob60 P) (.node (ob92 P) (.node (ob156 P) (.node (ob284 P) .nil .nil) .nil) (.node (ob220 P) .nil .nil)) (.node (ob124 P) (.node (ob188 P) (.node (ob316 P) .nil .nil) .nil) (.node (ob252 P) .nil .nil)))))) (.node (PySem.W.boot_o_6 P) (.node (PySem.W.boot_o_10 P) (.node (ob18 P) (.node (ob34 P) (.node (ob66 P) (.node (ob130 P) (.node (ob258 P) .nil .nil) .nil) (.node (ob194 P) (.node (ob322 P) .nil .nil) .nil)) (.node (ob98 P) (.node (ob162 P) (.node (ob290 P) .nil .nil) .nil) (.node (ob226 P) .nil .nil))) (.node (ob50 P) (.node (ob82 P) (.node (ob146 P) (.node (ob274 P) .nil .nil) .nil) (.node (ob210 P) .nil .nil)) (.node (ob114 P) (.node (ob178 P) (.node (ob306 P) .nil .nil) .nil) (.node (ob242 P) .nil .nil)))) (.node (ob26 P) (.node (ob42 P) (.node (ob74 P) (.node (ob138 P) (.node (ob266 P) .nil .nil) .nil) (.node (ob202 P) .nil .nil)) (.node (ob106 P) (.node (ob170 P) (.node (ob298 P) .nil .nil) .nil) (.node (ob234 P) .nil .nil))) (.node (ob58 P) (.node (ob90 P) (.node (ob154 P) (.node (ob282 P) .nil .nil) .nil) (.node (ob218 P) .nil .nil)) (.node (ob122 P) (.node (ob186 P) (.node (ob314 P) .nil .nil) .nil) (.node (ob250 P) .nil .nil))))) (.node (ob14 P) (.node (ob22 P) (.node (ob38 P) (.node (ob70 P) (.node (ob134 P) (.node (ob262 P) .nil .nil) .nil) (.node (ob198 P) .nil .nil)) (.node (ob102 P) (.node (ob166 P) (.node (ob294 P) .nil .nil) .nil) (.node (ob230 P) .nil .nil))) (.node (ob54 P) (.node (ob86 P) (.node (ob150 P) (.node (ob278 P) .nil .nil) .nil) (.node (ob214 P) .nil .nil)) (.node (ob118 P) (.node (ob182 P) (.node (ob310 P) .nil .nil) .nil) (.node (ob246 P) .nil .nil)))) (.node (ob30 P) (.node (ob46 P) (.node (ob78 P) (.node (ob142 P) (.node (ob270 P) .nil .nil) .nil) (.node (ob206 P) .nil .nil)) (.node (ob110 P) (.node (ob174 P) (.node (ob302 P) .nil .nil) .nil) (.node (ob238 P) .nil .nil))) (.node (ob62 P) (.node (ob94 P) (.node (ob158 P) (.node (ob286 P) .nil .nil) .nil) (.node (ob222 P) .nil .nil)) (.node (ob126 P) (.node (ob190 P) (.node (ob318 P) .nil .nil) .nil) (.node (ob254 P) .nil .nil)))))))
noncomputable def st6 : List Stmt := (tBody.drop 39).take 8
theorem r6 (w : World) (os : OsState) : segRunT treeTable prog w 11 (some (.ref 6)) 1 235 ⟨hp5 w.params, 271, {}, Array.mk [], {}, 538, os⟩ (piecesOf st6 tEnv tCode ⟨228, 0, 230, 86⟩ tFr) = some (.next, ⟨hp6 w.params, 323, {}, Array.mk [], {}, 600, os⟩, tCode, ⟨279, 0, 280, 61⟩) := by kernel_rfl
noncomputable def hp7 (P : Params) : BT := .node (PySem.W.boot_o_0 P) (.node (PySem.W.boot_o_1 P) (.node (d3 P (.str "law_ov0066_01" 618) 58) (.node (PySem.W.boot_o_7 P) (.node (ob15 P) (.node (ob31 P) (.node (ob63 P) (.node (ob127 P) (.node (ob255 P) .nil .nil) .nil) (.node (ob191 P) (.node (ob319 P) .nil .nil) .nil)) (.node (ob95 P) (.node (ob159 P) (.node (ob287 P) .nil .nil) .nil) (.node (ob223 P) (.node (ob351 P) .nil .nil) .nil))) (.node (ob47 P) (.node (ob79 P) (.node (ob143 P) (.node (ob271 P) .nil .nil) .nil) (.node (ob207 P) (.node (ob335 P) .nil .nil) .nil)) (.node (ob111 P) (.node (ob175 P) (.node (ob303 P) .nil .nil) .nil) (.node (ob239 P) (.node (ob367 P) .nil .nil) .nil)))) (.node (ob23 P) (.node (ob39 P) (.node (ob71 P) (.node (ob135 P) (.node (ob263 P) .nil .nil) .nil) (.node (ob199 P) (.node (ob327 P) .nil .nil) .nil)) (.node (ob103 P) (.node (ob167 P) (.node (ob295 P) .nil .nil) .nil) (.node (ob231 P) (.node (ob359 P) .nil .nil) .nil))) (.node (ob55 P) (.node (ob87 P) (.node (ob151 P) (.node (ob279 P) .nil .nil) .nil) (.node (ob215 P) (.node (ob343 P) .nil .nil) .nil)) (.node (ob119 P) (.node (ob183 P) (.node (ob311 P) .nil .nil) .nil) (.node (ob247 P) .nil .nil))))) (.node (ob11 P) (.node (ob19 P) (.node (ob35 P) (.node (ob67 P) (.node (ob131 P) (.node (ob259 P) .nil .nil) .nil) (.node (ob195 P) (.node (ob323 P) .nil .nil) .nil)) (.node (ob99 P) (.node (ob163 P) (.node (ob291 P) .nil .nil) .nil) (.node (ob227 P) (.node (ob355 P) .nil .nil) .nil))) (.node (ob51 P) (.node (ob83 P) (.node (ob147 P) (.node (ob275 P) .nil .nil) .nil) (.node (ob211 P) (.node (ob339 P) .nil .nil) .nil)) (.node (ob115 P) (.node (ob179 P) (.node (ob307 P) .nil .nil) .nil) (.node (ob243 P) (.node (ob371 P) .nil .nil) .nil)))) (.node (ob27 P) (.node (ob43 P) (.node (ob75 P) (.node (ob139 P) (.node (ob267 P) .nil .nil) .nil) (.node (ob203 P) (.node (ob331 P) .nil .nil) .nil)) (.node (ob107 P) (.node (ob171 P) (.node (ob299 P) .nil .nil) .nil) (.node (ob235 P) (.node (ob363 P) .nil .nil) .nil))) (.node (ob59 P) (.node (ob91 P) (.node (ob155 P) (.node (ob283 P) .nil .nil) .nil) (.node (ob219 P) (.node (ob347 P) .nil .nil) .nil)) (.node (ob123 P) (.node (ob187 P) (.node (ob315 P) .nil .nil) .nil) (.node (ob251 P) .nil .nil)))))) (.node (PySem.W.boot_o_5 P) (.node (PySem.W.boot_o_9 P) (.node (ob17 P) (.node (ob33 P) (.node (ob65 P) (.node (ob129 P) (.node (ob257 P) .nil .nil) .nil) (.node (ob193 P) (.node (ob321 P) .nil .nil) .nil)) (.node (ob97 P) (.node (ob161 P) (.node (ob289 P) .nil .nil) .nil) (.node (ob225 P) (.node (ob353 P) .nil .nil) .nil))) (.node (ob49 P) (.node (ob81 P) (.node (ob145 P) (.node (ob273 P) .nil .nil) .nil) (.node (ob209 P) (.node (ob337 P) .nil .nil) .nil)) (.node (ob113 P) (.node (ob177 P) (.node (ob305 P) .nil .nil) .nil) (.node (ob241 P) (.node (ob369 P) .nil .nil) .nil)))) (.node (ob25 P) (.node (ob41 P) (.node (ob73 P) (.node (ob137 P) (.node (ob265 P) .nil .nil) .nil) (.node (ob201 P) (.node (ob329 P) .nil .nil) .nil)) (.node (ob105 P) (.node (ob169 P) (.node (ob297 P) .nil .nil) .nil) (.node (ob233 P) (.node (ob361 P) .nil .nil) .nil))) (.node (ob57 P) (.node (ob89 P) (.node (ob153 P) (.node (ob281 P) .nil .nil) .nil) (.node (ob217 P) (.node (ob345 P) .nil .nil) .nil)) (.node (ob121 P) (.node (ob185 P) (.node (ob313 P) .nil .nil) .nil) (.node (ob249 P) .nil .nil))))) (.node (ob13 P) (.node (ob21 P) (.node (ob37 P) (.node (ob69 P) (.node (ob133 P) (.node (ob261 P) .nil .nil) .nil) (.node (ob197 P) (.node (ob325 P) .nil .nil) .nil)) (.node (ob101 P) (.node (ob165 P) (.node (ob293 P) .nil .nil) .nil) (.node (ob229 P) (.node (ob357 P) .nil .nil) .nil))) (.node (ob53 P) (.node (ob85 P) (.node (ob149 P) (.node (ob277 P) .nil .nil) .nil) (.node (ob213 P) (.node (ob341 P) .nil .nil) .nil)) (.node (ob117 P) (.node (ob181 P) (.node (ob309 P) .nil .nil) .nil) (.node (ob245 P) .nil .nil)))) (.node (ob29 P) (.node (ob45 P) (.node (ob77 P) (.node (ob141 P) (.node (ob269 P) .nil .nil) .nil) (.node (ob205 P) (.node (ob333 P) .nil .nil) .nil)) (.node (ob109 P) (.node (ob173 P) (.node (ob301 P) .nil .nil) .nil) (.node (ob237 P) (.node (ob365 P) .nil .nil) .nil))) (.node (ob61 P) (.node (ob93 P) (.node (ob157 P) (.node (ob285 P) .nil .nil) .nil) (.node (ob221 P) (.node (ob349 P) .nil .nil) .nil)) (.node (ob125 P) (.node (ob189 P) (.node (ob317 P) .nil .nil) .nil) (.node (ob253 P) .nil .nil))))))) (.node (PySem.W.boot_o_2 P) (.node (PySem.W.boot_o_4 P) (.node (PySem.W.boot_o_8 P) (.node (ob16 P) (.node (ob32 P) (.node (ob64 P) (.node (ob128 P) (.node (ob256 P) .nil .nil) .nil) (.node (ob192 P) (.node (ob320 P) .nil .nil) .nil)) (.node (ob96 P) (.node (ob160 P) (.node (ob288 P) .nil .nil) .nil) (.node (ob224 P) (.node (ob352 P) .nil .nil) .nil))) (.node (ob48 P) (.node (ob80 P) (.node (ob144 P) (.node (ob272 P) .nil .nil) .nil) (.node (ob208 P) (.node (ob336 P) .nil .nil) .nil)) (.node (ob112 P) (.node (ob176 P) (.node (ob304 P) .nil .nil) .nil) (.node (ob240 P) (.node (ob368 P) .nil .nil) .nil)))) (.node (ob24 P) (.node (ob40 P) (.node (ob72 P) (.node (ob136 P) (.node (ob264 P) .nil .nil) .nil) (.node (ob200 P) (.node (ob328 P) .nil .nil) .nil)) (.node (ob104 P) (.node (ob168 P) (.node (ob296 P) .nil .nil) .nil) (.node (ob232 P) (.node (ob360 P) .nil .nil) .nil))) (.node (ob56 P) (.node (ob88 P) (.node (ob152 P) (.node (ob280 P) .nil .nil) .nil) (.node (ob216 P) (.node (ob344 P) .nil .nil) .nil)) (.node (ob120 P) (.node (ob184 P) (.node (ob312 P) .nil .nil) .nil) (.node (ob248 P) .nil .nil))))) (.node (d12 P 147) (.node (ob20 P) (.node (ob36 P) (.node (ob68 P) (.node (ob132 P) (.node (ob260 P) .nil .nil) .nil) (.node (ob196 P) (.node (ob324 P) .nil .nil) .nil)) (.node (ob100 P) (.node (ob164 P) (.node (ob292 P) .nil .nil) .nil) (.node (ob228 P) (.node (ob356 P) .nil .nil) .nil))) (.node (ob52 P) (.node (ob84 P) (.node (ob148 P) (.node (ob276 P) .nil .nil) .nil) (.node (ob212 P) (.node (ob340 P) .nil .nil) .nil)) (.node (ob116 P) (.node (ob180 P) (.node (ob308 P) .nil .nil) .nil) (.node (ob244 P) (.node (ob372 P) .nil .nil) .nil)))) (.node (ob28 P) (.node (ob44 P) (.node (ob76 P) (.node (ob140 P) (.node (ob268 P) .nil .nil) .nil) (.node (ob204 P) (.node (ob332 P) .nil .nil) .nil)) (.node (ob108 P) (.node (ob172 P) (.node (ob300 P) .nil .nil) .nil) (.node (ob236 P) (.node (ob364 P) .nil .nil) .nil))) (.node (ob60 P) (.node (ob92 P) (.node (ob156 P) (.node (ob284 P) .nil .nil) .nil) (.node (ob220 P) (.node (ob348 P) .nil .nil) .nil)) (.node (ob124 P) (.node (ob188 P) (.node (ob316 P) .nil .nil) .nil) (.node (ob252 P) .nil .nil)))))) (.node (PySem.W.boot_o_6 P) (.node (PySem.W.boot_o_10 P) (.node (ob18 P) (.node (ob34 P) (.node (ob66 P) (.node (ob130 P) (.node (ob258 P) .nil .nil) .nil) (.node (ob194 P) (.node (ob322 P) .nil .nil) .nil)) (.node (ob98 P) (.node (ob162 P) (.node (ob290 P) .nil .nil) .nil) (.node (ob226 P) (.node (ob354 P) .nil .nil) .nil))) (.node (ob50 P) (.node (ob82 P) (.node (ob146 P) (.node (ob274 P) .nil .nil) .nil) (.node (ob210 P) (.node (ob338 P) .nil .nil) .nil)) (.node (ob114 P) (.node (ob178 P) (.node (ob306 P) .nil .nil) .nil) (.node (ob242 P) (.node (ob370 P) .nil .nil) .nil)))) (.node (ob26 P) (.node (ob42 P) (.node (ob74 P) (.node (ob138 P) (.node (ob266 P) .nil .nil) .nil) (.node (ob202 P) (.node (ob330 P) .nil .nil) .nil)) (.node (ob106 P) (.node (ob170 P) (.node (ob298 P) .nil .nil) .nil) (.node (ob234 P) (.node (ob362 P) .nil .nil) .nil))) (.node (ob58 P) (.node (ob90 P) (.node (ob154 P) (.node (ob282 P) .nil .nil) .nil) (.node (ob218 P) (.node (ob346 P) .nil .nil) .nil)) (.node (ob122 P) (.node (ob186 P) (.node (ob314 P) .nil .nil) .nil) (.node (ob250 P) .nil .nil))))) (.node (ob14 P) (.node (ob22 P) (.node (ob38 P) (.node (ob70 P) (.node (ob134 P) (.node (ob262 P) .nil .nil) .nil) (.node (ob198 P) (.node (ob326 P) .nil .nil) .nil)) (.node (ob102 P) (.node (ob166 P) (.node (ob294 P) .nil .nil) .nil) (.node (ob230 P) (.node (ob358 P) .nil .nil) .nil))) (.node (ob54 P) (.node (ob86 P) (.node (ob150 P) (.node (ob278 P) .nil .nil) .nil) (.node (ob214 P) (.node (ob342 P) .nil .nil) .nil)) (.node (ob118 P) (.node (ob182 P) (.node (ob310 P) .nil .nil) .nil) (.node (ob246 P) .nil .nil)))) (.node (ob30 P) (.node (ob46 P) (.node (ob78 P) (.node (ob142 P) (.node (ob270 P) .nil .nil) .nil) (.node (ob206 P) (.node (ob334 P) .nil .nil) .nil)) (.node (ob110 P) (.node (ob174 P) (.node (ob302 P) .nil .nil) .nil) (.node (ob238 P) (.node (ob366 P) .nil .nil) .nil))) (.node (ob62 P) (.node (ob94 P) (.node (ob158 P) (.node (ob286 P) .nil .nil) .nil) (.node (ob222 P) (.node (ob350 P) .nil .nil) .nil)) (.node (ob126 P) (.node (ob190 P) (.node (ob318 P) .nil .nil) .nil) (.node (ob254 P) .nil .nil)))))))
noncomputable def st7 : List Stmt := (tBody.drop 47).take 9
theorem r7 (w : World) (os : OsState) : segRunT treeTable prog w 11 (some (.ref 6)) 1 252 ⟨hp6 w.params, 323, {}, Array.mk [], {}, 600, os⟩ (piecesOf st7 tEnv tCode ⟨279, 0, 280, 61⟩ tFr) = some (.next, ⟨hp7 w.params, 373, {}, Array.mk [], {}, 674, os⟩, tCode, ⟨339, 0, 342, 72⟩) := by kernel_rfl
noncomputable def hp8 (P : Params) : BT := .node (PySem.W.boot_o_0 P) (.node (PySem.W.boot_o_1 P) (.node (d3 P (.str "law_ov0066_01" 618) 61) (.node (PySem.W.boot_o_7 P) (.node (ob15 P) (.node (ob31 P) (.node (ob63 P) (.node (ob127 P) (.node (ob255 P) .nil .nil) (.node (ob383 P) .nil .nil)) (.node (ob191 P) (.node (ob319 P) .nil .nil) .nil)) (.node (ob95 P) (.node (ob159 P) (.node (ob287 P) .nil .nil) .nil) (.node (ob223 P) (.node (ob351 P) .nil .nil) .nil))) (.node (ob47 P) (.node (ob79 P) (.node (ob143 P) (.node (ob271 P) .nil .nil) .nil) (.node (ob207 P) (.node (ob335 P) .nil .nil) .nil)) (.node (ob111 P) (.node (ob175 P) (.node (ob303 P) .nil .nil) .nil) (.node (ob239 P) (.node (ob367 P) .nil .nil) .nil)))) (.node (ob23 P) (.node (ob39 P) (.node (ob71 P) (.node (ob135 P) (.node (ob263 P) .nil .nil) (.node (ob391 P) .nil .nil)) (.node (ob199 P) (.node (ob327 P) .nil .nil) .nil)) (.node (ob103 P) (.node (ob167 P) (.node (ob295 P) .nil .nil) .nil) (.node (ob231 P) (.node (ob359 P) .nil .nil) .nil))) (.node (ob55 P) (.node (ob87 P) (.node (ob151 P) (.node (ob279 P) .nil .nil) .nil) (.node (ob215 P) (.node (ob343 P) .nil .nil) .nil)) (.node (ob119 P) (.node (ob183 P) (.node (ob311 P) .nil .nil) .nil) (.node (ob247 P) (.node (ob375 P) .nil .nil) .nil))))) (.node (ob11 P) (.node (ob19 P) (.node (ob35 P) (.node (ob67 P) (.node (ob131 P) (.node (ob259 P) .nil .nil) (.node (ob387 P) .nil .nil)) (.node (ob195 P) (.node (ob323 P) .nil .nil) .nil)) (.node (ob99 P) (.node (ob163 P) (.node (ob291 P) .nil .nil) .nil) (.node (ob227 P) (.node (ob355 P) .nil .nil) .nil))) (.node (ob51 P) (.node (ob83 P) (.node (ob147 P) (.node (ob275 P) .nil .nil) .nil) (.node (ob211 P) (.node (ob339 P) .nil .nil) .nil)) (.node (ob115 P) (.node (ob179 P) (.node (ob307 P) .nil .nil) .nil) (.node (ob243 P) (.node (ob371 P) .nil .nil) .nil)))) (.node (ob27 P) (.node (ob43 P) (.node (ob75 P) (.node (ob139 P) (.node (ob267 P) .nil .nil) .nil) (.node (ob203 P) (.node (ob331 P) .nil .nil) .nil)) (.node (ob107 P) (.node (ob171 P) (.node (ob299 P) .nil .nil) .nil) (.node (ob235 P) (.node (ob363 P) .nil .nil) .nil))) (.node (ob59 P) (.node (ob91 P) (.node (ob155 P) (.node (ob283 P) .nil .nil) .nil) (.node (ob219 P) (.node (ob347 P) .nil .nil) .nil)) (.node (ob123 P) (.node (ob187 P) (.node (ob315 P) .nil .nil) .nil) (.node (ob251 P) (.node (ob379 P) .nil .nil) .nil)))))) (.node (PySem.W.boot_o_5 P) (.node (PySem.W.boot_o_9 P) (.node (ob17 P) (.node (ob33 P) (.node (ob65 P) (.node (ob129 P) (.node (ob257 P) .nil .nil) (.node (ob385 P) .nil .nil)) (.node (ob193 P) (.node (ob321 P) .nil .nil) .nil)) (.node (ob97 P) (.node (ob161 P) (.node (ob289 P) .nil .nil) .nil) (.node (ob225 P) (.node (ob353 P) .nil .nil) .nil))) (.node (ob49 P) (.node (ob81 P) (.node (ob145 P) (.node (ob273 P) .nil .nil) .nil) (.node (ob209 P) (.node (ob337 P) .nil .nil) .nil)) (.node (ob113 P) (.node (ob177 P) (.node (ob305 P) .nil .nil) .nil) (.node (ob241 P) (.node (ob369 P) .nil .nil) .nil)))) (.node (ob25 P) (.node (ob41 P) (.node (ob73 P) (.node (ob137 P) (.node (ob265 P) .nil .nil) .nil) (.node (ob201 P) (.node (ob329 P) .nil .nil) .nil)) (.node (ob105 P) (.node (ob169 P) (.node (ob297 P) .nil .nil) .nil) (.node (ob233 P) (.node (ob361 P) .nil .nil) .nil))) (.node (ob57 P) (.node (ob89 P) (.node (ob153 P) (.node (ob281 P) .nil .nil) .nil) (.node (ob217 P) (.node (ob345 P) .nil .nil) .nil)) (.node (ob121 P) (.node (ob185 P) (.node (ob313 P) .nil .nil) .nil) (.node (ob249 P) (.node (ob377 P) .nil .nil) .nil))))) (.node (ob13 P) (.node (ob21 P) (.node (ob37 P) (.node (ob69 P) (.node (ob133 P) (.node (ob261 P) .nil .nil) (.node (ob389 P) .nil .nil)) (.node (ob197 P) (.node (ob325 P) .nil .nil) .nil)) (.node (ob101 P) (.node (ob165 P) (.node (ob293 P) .nil .nil) .nil) (.node (ob229 P) (.node (ob357 P) .nil .nil) .nil))) (.node (ob53 P) (.node (ob85 P) (.node (ob149 P) (.node (ob277 P) .nil .nil) .nil) (.node (ob213 P) (.node (ob341 P) .nil .nil) .nil)) (.node (ob117 P) (.node (ob181 P) (.node (ob309 P) .nil .nil) .nil) (.node (ob245 P) (.node (ob373 P) .nil .nil) .nil)))) (.node (ob29 P) (.node (ob45 P) (.node (ob77 P) (.node (ob141 P) (.node (ob269 P) .nil .nil) .nil) (.node (ob205 P) (.node (ob333 P) .nil .nil) .nil)) (.node (ob109 P) (.node (ob173 P) (.node (ob301 P) .nil .nil) .nil) (.node (ob237 P) (.node (ob365 P) .nil .nil) .nil))) (.node (ob61 P) (.node (ob93 P) (.node (ob157 P) (.node (ob285 P) .nil .nil) .nil) (.node (ob221 P) (.node (ob349 P) .nil .nil) .nil)) (.node (ob125 P) (.node (ob189 P) (.node (ob317 P) .nil .nil) .nil) (.node (ob253 P) (.node (ob381 P) .nil .nil) .nil))))))) (.node (PySem.W.boot_o_2 P) (.node (PySem.W.boot_o_4 P) (.node (PySem.W.boot_o_8 P) (.node (ob16 P) (.node (ob32 P) (.node (ob64 P) (.node (ob128 P) (.node (ob256 P) .nil .nil) (.node (ob384 P) .nil .nil)) (.node (ob192 P) (.node (ob320 P) .nil .nil) .nil)) (.node (ob96 P) (.node (ob160 P) (.node (ob288 P) .nil .nil) .nil) (.node (ob224 P) (.node (ob352 P) .nil .nil) .nil))) (.node (ob48 P) (.node (ob80 P) (.node (ob144 P) (.node (ob272 P) .nil .nil) .nil) (.node (ob208 P) (.node (ob336 P) .nil .nil) .nil)) (.node (ob112 P) (.node (ob176 P) (.node (ob304 P) .nil .nil) .nil) (.node (ob240 P) (.node (ob368 P) .nil .nil) .nil)))) (.node (ob24 P) (.node (ob40 P) (.node (ob72 P) (.node (ob136 P) (.node (ob264 P) .nil .nil) .nil) (.node (ob200 P) (.node (ob328 P) .nil .nil) .nil)) (.node (ob104 P) (.node (ob168 P) (.node (ob296 P) .nil .nil) .nil) (.node (ob232 P) (.node (ob360 P) .nil .nil) .nil))) (.node (ob56 P) (.node (ob88 P) (.node (ob152 P) (.node (ob280 P) .nil .nil) .nil) (.node (ob216 P) (.node (ob344 P) .nil .nil) .nil)) (.node (ob120 P) (.node (ob184 P) (.node (ob312 P) .nil .nil) .nil) (.node (ob248 P) (.node (ob376 P) .nil .nil) .nil))))) (.node (d12 P 156) (.node (ob20 P) (.node (ob36 P) (.node (ob68 P) (.node (ob132 P) (.node (ob260 P) .nil .nil) (.node (ob388 P) .nil .nil)) (.node (ob196 P) (.node (ob324 P) .nil .nil) .nil)) (.node (ob100 P) (.node (ob164 P) (.node (ob292 P) .nil .nil) .nil) (.node (ob228 P) (.node (ob356 P) .nil .nil) .nil))) (.node (ob52 P) (.node (ob84 P) (.node (ob148 P) (.node (ob276 P) .nil .nil) .nil) (.node (ob212 P) (.node (ob340 P) .nil .nil) .nil)) (.node (ob116 P) (.node (ob180 P) (.node (ob308 P) .nil .nil) .nil) (.node (ob244 P) (.node (ob372 P) .nil .nil) .nil)))) (.node (ob28 P) (.node (ob44 P) (.node (ob76 P) (.node (ob140 P) (.node (ob268 P) .nil .nil) .nil) (.node (ob204 P) (.node (ob332 P) .nil .nil) .nil)) (.node (ob108 P) (.node (ob172 P) (.node (ob300 P) .nil .nil) .nil) (.node (ob236 P) (.node (ob364 P) .nil .nil) .nil))) (.node (ob60 P) (.node (ob92 P) (.node (ob156 P) (.node (ob284 P) .nil .nil) .nil) (.node (ob220 P) (.node (ob348 P) .nil .nil) .nil)) (.node (ob124 P) (.node (ob188 P) (.node (ob316 P) .nil .nil) .nil) (.node (ob252 P) (.node (ob380 P) .nil .nil) .nil)))))) (.node (PySem.W.boot_o_6 P) (.node (PySem.W.boot_o_10 P) (.node (ob18 P) (.node (ob34 P) (.node (ob66 P) (.node (ob130 P) (.node (ob258 P) .nil .nil) (.node (ob386 P) .nil .nil)) (.node (ob194 P) (.node (ob322 P) .nil .nil) .nil)) (.node (ob98 P) (.node (ob162 P) (.node (ob290 P) .nil .nil) .nil) (.node (ob226 P) (.node (ob354 P) .nil .nil) .nil))) (.node (ob50 P) (.node (ob82 P) (.node (ob146 P) (.node (ob274 P) .nil .nil) .nil) (.node (ob210 P) (.node (ob338 P) .nil .nil) .nil)) (.node (ob114 P) (.node (ob178 P) (.node (ob306 P) .nil .nil) .nil) (.node (ob242 P) (.node (ob370 P) .nil .nil) .nil)))) (.node (ob26 P) (.node (ob42 P) (.node (ob74 P) (.node (ob138 P) (.node (ob266 P) .nil .nil) .nil) (.node (ob202 P) (.node (ob330 P) .nil .nil) .nil)) (.node (ob106 P) (.node (ob170 P) (.node (ob298 P) .nil .nil) .nil) (.node (ob234 P) (.node (ob362 P) .nil .nil) .nil))) (.node (ob58 P) (.node (ob90 P) (.node (ob154 P) (.node (ob282 P) .nil .nil) .nil) (.node (ob218 P) (.node (ob346 P) .nil .nil) .nil)) (.node (ob122 P) (.node (ob186 P) (.node (ob314 P) .nil .nil) .nil) (.node (ob250 P) (.node (ob378 P) .nil .nil) .nil))))) (.node (ob14 P) (.node (ob22 P) (.node (ob38 P) (.node (ob70 P) (.node (ob134 P) (.node (ob262 P) .nil .nil) (.node (ob390 P) .nil .nil)) (.node (ob198 P) (.node (ob326 P) .nil .nil) .nil)) (.node (ob102 P) (.node (ob166 P) (.node (ob294 P) .nil .nil) .nil) (.node (ob230 P) (.node (ob358 P) .nil .nil) .nil))) (.node (ob54 P) (.node (ob86 P) (.node (ob150 P) (.node (ob278 P) .nil .nil) .nil) (.node (ob214 P) (.node (ob342 P) .nil .nil) .nil)) (.node (ob118 P) (.node (ob182 P) (.node (ob310 P) .nil .nil) .nil) (.node (ob246 P) (.node (ob374 P) .nil .nil) .nil)))) (.node (ob30 P) (.node (ob46 P) (.node (ob78 P) (.node (ob142 P) (.node (ob270 P) .nil .nil) .nil) (.node (ob206 P) (.node (ob334 P) .nil .nil) .nil)) (.node (ob110 P) (.node (ob174 P) (.node (ob302 P) .nil .nil) .nil) (.node (ob238 P) (.node (ob366 P) .nil .nil) .nil))) (.node (ob62 P) (.node (ob94 P) (.node (ob158 P) (.node (ob286 P) .nil .nil) .nil) (.node (ob222 P) (.node (ob350 P) .nil .nil) .nil)) (.node (ob126 P) (.node (ob190 P) (.node (ob318 P) .nil .nil) .nil) (.node (ob254 P) (.node (ob382 P) .nil .nil) .nil)))))))
noncomputable def st8 : List Stmt := (tBody.drop 56).take 3
theorem r8 (w : World) (os : OsState) : segRunT treeTable prog w 11 (some (.ref 6)) 1 105 ⟨hp7 w.params, 373, {}, Array.mk [], {}, 674, os⟩ (piecesOf st8 tEnv tCode ⟨339, 0, 342, 72⟩ tFr) = some (.next, ⟨hp8 w.params, 392, {}, Array.mk [], {}, 714, os⟩, tCode, ⟨373, 0, 400, 47⟩) := by kernel_rfl
theorem rFin (w : World) (os : OsState) : topRun treeTable prog w 11 (some (.ref 6)) 2 (SharedT.abs ⟨hp8 w.params, 392, {}, Array.mk [], {}, 714, os⟩) ⟨doneF .next, tCode, ⟨373, 0, 400, 47⟩, tFr⟩ = some ⟨hEnd w.params, Array.mk [], {}, 714, os⟩ := by kernel_rfl
theorem rBody : tBody = st0 ++ (st1 ++ (st2 ++ (st3 ++ (st4 ++ (st5 ++ (st6 ++ (st7 ++ (st8 ++ [])))))))) := by kernel_rfl
theorem rRest (w : World) (os : OsState) : topRun treeTable prog w 11 (some (.ref 6)) 2075 (SharedT.abs ⟨hpb w.params, 15, {}, Array.mk [], {}, 187, os⟩) (restOf tBody tEnv tCode ⟨0, 0, 0, 0⟩ tFr) = some ⟨hEnd w.params, Array.mk [], {}, 714, os⟩ :=
  (congrArg (fun b => topRun treeTable prog w 11 (some (.ref 6)) 2075 (SharedT.abs ⟨hpb w.params, 15, {}, Array.mk [], {}, 187, os⟩) (restOf b tEnv tCode ⟨0, 0, 0, 0⟩ tFr)) rBody).trans (piece_app (segRun_of (r0 w os)) (piece_app (segRun_of (r1 w os)) (piece_app (segRun_of (r2 w os)) (piece_app (segRun_of (r3 w os)) (piece_app (segRun_of (r4 w os)) (piece_app (segRun_of (r5 w os)) (piece_app (segRun_of (r6 w os)) (piece_app (segRun_of (r7 w os)) (piece_app (segRun_of (r8 w os)) (piece_nil (rFin w os)))))))))))
theorem hRun : ∀ (w : World) (os : OsState), topRun treeTable prog w 11 (some (.ref 6)) 2088 ⟨boot_heap w.params, Array.mk [], boot_drawn, boot_toks, os⟩ (topStub prog) = some ⟨hEnd w.params, Array.mk [], {}, 714, os⟩ := fun w os => go_top (rPre w os) (piece_block (rBlock w os) (rRest w os))

end
section
set_option maxHeartbeats 0
noncomputable abbrev xt (s : Shared) : Bool := xlAt view39 [] s && recOk (RowW.records PySem.Challenge.rw_ov0066_01.row.toRowW) s
noncomputable abbrev sEnd (w : World) (os : OsState) : Shared := ⟨hEnd w.params, Array.mk [], {}, 714, os⟩
noncomputable abbrev seenE (w : World) (os : OsState) := openSeen view39 ["number_text"] (importedModules prog.main.body) xt true (sEnd w os)
theorem lk0 (w : World) (os : OsState) : (staticsOk (importedModules prog.main.body) (boot_heap w.params) (hEnd w.params) && namesBound prog (hEnd w.params) && gensDone (sEnd w os) && laidKept (boot_heap w.params) (hEnd w.params)) = true := by kernel_rfl
theorem lk1 (w : World) (os : OsState) : (seenE w os).1 = expectedOf view39 := by kernel_rfl
theorem lk2 (w : World) (os : OsState) : ((seenE w os).2.1, (seenE w os).2.2.1, (seenE w os).2.2.2.1) = (bltViewBooted, true, true) := by kernel_rfl
theorem lk3 (w : World) (os : OsState) : (seenE w os).2.2.2.2 = (pinGoodD (drecsOf view39), plainGoodE view39 (looseW view39 ["number_text"]), plainGoodD view39 ["number_text"], wideGood view39, clsGoodW view39 ["number_text"]) := by kernel_rfl
theorem lk10 (w : World) (os : OsState) : hk.obs (sEnd w os) = hk.val w := by kernel_rfl
theorem five_of {A B C D E : Type} {x : A × B × C × D × E} {a : A} {b : B} {c : C} {d : D} {e : E} (h1 : x.1 = a) (h2 : (x.2.1, x.2.2.1, x.2.2.2.1) = (b, c, d)) (h3 : x.2.2.2.2 = e) : x = (a, b, c, d, e) := by
  obtain ⟨x1, x2, x3, x4, x5⟩ := x
  cases h1; cases h2; cases h3; rfl
theorem lkE (w : World) (os : OsState) : seenE w os = (expectedOf view39, bltViewBooted, true, true, pinGoodD (drecsOf view39), plainGoodE view39 (looseW view39 ["number_text"]), plainGoodD view39 ["number_text"], wideGood view39, clsGoodW view39 ["number_text"]) :=
  five_of (lk1 w os) (lk2 w os) (lk3 w os)
theorem hLooks : ∀ w : World, (fun os => ((staticsOk (importedModules prog.main.body) (boot_heap w.params) (hEnd w.params) && namesBound prog (hEnd w.params) && gensDone ⟨hEnd w.params, Array.mk [], {}, 714, os⟩ && laidKept (boot_heap w.params) (hEnd w.params)),
        openSeen view39 ["number_text"] (importedModules prog.main.body) xt true ⟨hEnd w.params, Array.mk [], {}, 714, os⟩, hk.obs ⟨hEnd w.params, Array.mk [], {}, 714, os⟩)) = fun _ => (true, openGood view39 ["number_text"], hk.val w) := fun w => funext fun os =>
  looks_pair (lk0 w os) (looks_pair (lkE w os) (lk10 w os))

end
section
set_option maxHeartbeats 0
theorem hLeft : LeftO prog view39 ["number_text"] xt hk.obs hk.val 4254 :=
  LeftO.of_pieces (M := 2088) (boot_open hOpen (by decide) hFence) hSize hRun (by decide) hLooks
theorem band {a b : Bool} (x : a = true) (y : b = true) : (a && b) = true := by rw [x, y]; rfl
noncomputable abbrev rp : Program := PySem.Challenge.rw_ov0066_01.row.prog
theorem sd1 : namesResolve rp = true := by kernel_rfl
theorem sd2 : noRoadLSs { strict := !(importedModules rp.main.body).all cThrough.contains, foot := none, bare := (["vars", "dir", "locals"] : List Str).filter (readsOut rp rp.main.body) } rp.main.body = true := by kernel_rfl
theorem sd3 : looksOpen rp = true := by
  unfold looksOpen
  refine band (band (band (band ?_ sd1) ?_) sd2) ?_ <;> kernel_rfl
theorem sd4 : PySem.Challenge.rw_ov0066_01.row.wellSaid = true := by
  unfold OpenRow.wellSaid OpenRow.partSaid
  with_reducible repeat' apply band
  exact sd3
  all_goals kernel_rfl
theorem sd5 : PySem.Challenge.rw_ov0066_01.namesIt = true := by kernel_rfl
theorem sd6 : (PySem.Challenge.rw_ov0066_01.bound'.all fun n => !builtinNamed n || PySem.Challenge.rw_ov0066_01.about == [n] || !PySem.Challenge.rw_ov0066_01.reads n) = true := by kernel_rfl
theorem hSaid : PySem.Challenge.rw_ov0066_01.wellSaid = true := by
  unfold OpenLaw.wellSaid
  with_reducible repeat' apply band
  exact sd4
  all_goals first | with_reducible exact sd5 | with_reducible exact sd6 | kernel_rfl
theorem hChains : (chainsOk view39 && opensWell PySem.Challenge.rw_ov0066_01.row.prog && (frees PySem.Challenge.rw_ov0066_01.row.toRowW && PySem.Challenge.rw_ov0066_01.row.within.isEmpty)) = true := by decide +kernel

end

/-! ## the judgement -/
structure Cx where
  prog : Program
  w : World
  gens : Array GenState
  drawn : Drawn
  os : OsState
abbrev Cx.M (C : Cx) : Model := model C.prog C.w
abbrev Cx.st (C : Cx) (h : Heap) (k : Nat) : Shared := ⟨h, C.gens, C.drawn, k, C.os⟩

def W {α : Type} (C : Cx) (A : Around) (t : Sem α) (Q : α → Heap → Prop) (h : Heap) : Prop :=
  ∀ k, wpAny C.M A t (fun v s' => ∃ h' k', s' = C.st h' k' ∧ Q v h') (fun _ _ => False) (C.st h k)

section
variable {α β : Type} {C : Cx} {A : Around} {t : Sem α} {Q : α → Heap → Prop} {h : Heap}
theorem W.use {Q' : α → Shared → Prop} {E : Value → Shared → Prop} {k : Nat} (x : W C A t Q h) (f : ∀ v h' k', Q v h' → Q' v (C.st h' k')) : wpAny C.M A t Q' E (C.st h k) :=
  wpAny_mono (x k) (fun v _ ⟨h', k', e, q⟩ => e ▸ f v h' k' q) fun _ _ z => z.elim
theorem W.of (f : ∀ k (Q' : α → Shared → Prop), (∀ v h' k', Q v h' → Q' v (C.st h' k')) → wpAny C.M A t Q' (fun _ _ => False) (C.st h k)) : W C A t Q h :=
  fun k => f k _ fun _ h' k' q => ⟨h', k', rfl, q⟩
theorem W.mono {Q' : α → Heap → Prop} (x : W C A t Q h) (f : ∀ v h', Q v h' → Q' v h') : W C A t Q' h :=
  W.of fun _ _ g => x.use fun v h' k' q => g v h' k' (f v h' q)
theorem W.bind {f : α → Sem β} {Q : β → Heap → Prop} (x : W C A t (fun a h' => W C A (f a) Q h') h) : W C A (t >>= f) Q h :=
  W.of fun _ _ g => wpAny_bind (x.use fun _ _ _ q => q.use g)
theorem W.pure {a : α} (q : Q a h) : W C A (pure a) Q h := W.of fun _ _ g => wpAny_pure (g _ _ _ q)
theorem W.eq {t' : Sem α} (e : t = t') (x : W C A t' Q h) : W C A t Q h := e ▸ x
end

/-- a post that is taken as it comes -/
def Gn {α : Type} (Q : α → Heap → Prop) (g : (α → Heap → Prop) → Prop) : Prop := ∀ Q9 : α → Heap → Prop, (∀ v h, Q v h → Q9 v h) → g Q9
theorem Gn.in {α : Type} {Q : α → Heap → Prop} {g : (α → Heap → Prop) → Prop} (x : ∀ Q9 : α → Heap → Prop, (∀ v h, Q v h → Q9 v h) → g Q9) : Gn Q g := x
theorem Gn.self {α : Type} {Q : α → Heap → Prop} {g : (α → Heap → Prop) → Prop} (x : Gn Q g) : g Q := x Q fun _ _ q => q
theorem Gu {α : Type} {Q Q9 : α → Heap → Prop} {v : α} {h : Heap} (hq : ∀ v h, Q v h → Q9 v h) (q : Q v h) : Q9 v h := hq _ _ q
/-! ## the room around a call -/
structure Rm (A : Around) (n : Nat) : Prop where
  handled : A.handled = none
  depth : A.depth + n < recursionLimit
  units : A.units + 8 * n + 100 < cLine
theorem Rm.le {A : Around} {n m : Nat} (r : Rm A n) (h : m ≤ n) : Rm A m := ⟨r.handled, by have := r.depth; (first | lia | omega), by have := r.units; (first | lia | omega)⟩
theorem Rm.deeper {A : Around} {n : Nat} {env : Env} (r : Rm A (n + 1)) : Rm (A.deeper env) n :=
  ⟨r.handled, by have := r.depth; show A.depth + 1 + n < _; (first | lia | omega), by have := r.units; show A.units + 3 + 8 * n + 100 < _; (first | lia | omega)⟩
theorem Rm.room {A : Around} {n : Nat} (r : Rm A n) : A.depth < recursionLimit := by have := r.depth; (first | lia | omega)
theorem Rm.unit {A : Around} {n : Nat} (r : Rm A n) : A.units < cLine := by have := r.units; (first | lia | omega)
theorem Rm.mark {A : Around} {n : Nat} (r : Rm A n) : Rm (A.mark none) n := ⟨by show (none : Option Value).or A.handled = none; rw [r.handled]; rfl, r.depth, r.units⟩
theorem Rm.in1 {A : Around} {n : Nat} (r : Rm A (n + 1)) : Rm A.in1 n := ⟨r.handled, by have := r.depth; show A.depth + n < _; (first | lia | omega), by have := r.units; show A.units + 1 + 8 * n + 100 < _; (first | lia | omega)⟩

/-! ## the separated heap -/
abbrev Ext (P P' : Heap) : Prop := ∀ b o, P.get? b = some o → P'.get? b = some o
theorem Ext.rfl {P : Heap} : Ext P P := fun _ _ e => e
theorem Ext.trans {P Q R : Heap} (a : Ext P Q) (b : Ext Q R) : Ext P R := fun c o e => b c o (a c o e)

structure Base (C : Cx) (P : Heap) : Prop where
  k : (hd.heap_39 C.w.params).In P
  t : ∃ p loose mg mb, TopRead p loose mg mb P
theorem Base.ext {C : Cx} {P P' : Heap} (b : Base C P) (e : Ext P P') : Base C P' := ⟨b.k.keeps e, let ⟨p, l, mg, mb, t⟩ := b.t; ⟨p, l, mg, mb, t.keeps e⟩⟩

abbrev Own := List (Addr × Obj)
structure Sep (C : Cx) (P : Heap) (fr : Own) (h : Heap) : Prop where
  base : Base C P
  sub : Ext P h
  own : ∀ p ∈ fr, h.get? p.1 = some p.2
  off : ∀ p ∈ fr, P.get? p.1 = none
  nd : (fr.map (·.1)).Nodup

structure St (C : Cx) (P : Heap) (fr : Own) (L : Addr) (m : Str → Option Value) (h : Heap) : Prop where
  sep : Sep C P fr h
  ns : h.Ns L m
  offP : P.get? L = none
  offF : L ∉ fr.map (·.1)

section
variable {C : Cx} {P P' : Heap} {fr fr' : Own} {L : Addr} {m : Str → Option Value} {h h' : Heap}

theorem Sep.perm (S : Sep C P fr h) (p : fr.Perm fr') : Sep C P fr' h :=
  ⟨S.base, S.sub, fun q hq => S.own q (p.mem_iff.mpr hq), fun q hq => S.off q (p.mem_iff.mpr hq), (p.map (·.1)).nodup_iff.mp S.nd⟩
theorem St.perm (S : St C P fr L m h) (p : fr.Perm fr') : St C P fr' L m h :=
  ⟨S.sep.perm p, S.ns, S.offP, fun q => S.offF ((p.map (·.1)).mem_iff.mpr q)⟩
theorem Sep.keep (S : Sep C P fr h) (e : Ext h h') : Sep C P fr h' := ⟨S.base, S.sub.trans e, fun p hp => e _ _ (S.own p hp), S.off, S.nd⟩
theorem St.keep (S : St C P fr L m h) (e : Ext h h') : St C P fr L m h' := ⟨S.sep.keep e, S.ns.keeps e, S.offP, S.offF⟩
theorem Sep.drop {p : Addr × Obj} (S : Sep C P (p :: fr) h) : Sep C P fr h :=
  ⟨S.base, S.sub, fun q hq => S.own q (.tail _ hq), fun q hq => S.off q (.tail _ hq), (List.nodup_cons.mp S.nd).2⟩
theorem St.drop {p : Addr × Obj} (S : St C P (p :: fr) L m h) : St C P fr L m h := ⟨S.sep.drop, S.ns, S.offP, fun q => S.offF (List.mem_cons_of_mem _ q)⟩
theorem Sep.new {a : Addr} {o : Obj} (S : Sep C P fr h) (e : Ext h h') (ho : h'.get? a = some o) (hn : h.get? a = none) : Sep C P ((a, o) :: fr) h' := by
  have z := S.keep e
  refine ⟨z.base, z.sub, fun p hp => ?_, fun p hp => ?_, List.nodup_cons.mpr ⟨fun q => ?_, z.nd⟩⟩
  · rcases List.mem_cons.mp hp with rfl | hp
    · exact ho
    · exact z.own p hp
  · rcases List.mem_cons.mp hp with rfl | hp
    · cases q : P.get? a with
      | none => rfl
      | some o' => have := S.sub _ _ q; rw [hn] at this; cases this
    · exact z.off p hp
  · obtain ⟨p, hp, e'⟩ := List.mem_map.mp q
    have := S.own p hp
    rw [e', hn] at this; cases this
theorem St.new {a : Addr} {o : Obj} (S : St C P fr L m h) (e : Ext h h') (ho : h'.get? a = some o) (hn : h.get? a = none) : St C P ((a, o) :: fr) L m h' := by
  refine ⟨S.sep.new e ho hn, S.ns.keeps e, S.offP, fun q => ?_⟩
  rcases List.mem_cons.mp q with q | q
  · obtain ⟨o', _, _, ho', _⟩ := S.ns
    have q' : L = a := q
    rw [q', hn] at ho'; cases ho'
  · exact S.offF q
theorem none_size (h : Heap) : h.get? h.objs.size = none := by
  cases q : h.get? h.objs.size with
  | none => rfl
  | some o => exact absurd (Heap.lt_size q) (Nat.lt_irrefl _)
theorem ext_push (h : Heap) (o : Obj) : Ext h (h.push o) := fun _ _ e => Heap.get?_push_of_some _ e
theorem St.push (S : St C P fr L m h) (o : Obj) (hf : o.isFreed = false := by rfl) : St C P ((h.objs.size, o) :: fr) L m (h.push o) :=
  S.new (ext_push h o) (Heap.get?_push_size _ hf) (none_size h)
theorem Sep.push (S : Sep C P fr h) (o : Obj) (hf : o.isFreed = false := by rfl) : Sep C P ((h.objs.size, o) :: fr) (h.push o) :=
  S.new (ext_push h o) (Heap.get?_push_size _ hf) (none_size h)

/-- one owned object is changed -/
theorem Sep.set {a : Addr} {o o' : Obj} {i : Nat} (S : Sep C P fr h) (hi : fr[i]? = some (a, o)) (hs : Heap.SameBut a h h') (ho : h'.get? a = some o') : Sep C P (fr.set i (a, o')) h' := by
  have hlt : i < fr.length := (List.getElem?_eq_some_iff.mp hi).1
  have hget : fr[i] = (a, o) := (List.getElem?_eq_some_iff.mp hi).2
  have hmem : (a, o) ∈ fr := hget ▸ List.getElem_mem hlt
  have hP := S.off _ hmem
  have hmap : (fr.set i (a, o')).map (·.1) = fr.map (·.1) := by
    rw [List.map_set]
    refine List.ext_getElem (by simp) fun n h1 h2 => ?_
    rw [List.getElem_set]
    split
    · rename_i e; subst e; simp [hget]
    · rfl
  refine ⟨S.base, fun b ob e => ?_, fun p hp => ?_, fun p hp => ?_, hmap ▸ S.nd⟩
  · exact (hs.2 b fun q => by rw [q, hP] at e; cases e).trans (S.sub b ob e)
  · obtain ⟨j, hj, rfl⟩ := List.mem_iff_getElem.mp hp
    rw [List.length_set] at hj
    rw [List.getElem_set]
    split
    · exact ho
    · rename_i hne
      refine (hs.2 _ fun q => ?_).trans (S.own _ (List.getElem_mem hj))
      have nd := List.pairwise_iff_getElem.mp S.nd
      have l1 : i < (fr.map (·.1)).length := by simpa using hlt
      have l2 : j < (fr.map (·.1)).length := by simpa using hj
      have q' : (fr.map (·.1))[j] = (fr.map (·.1))[i] := by simpa [hget] using q
      rcases Nat.lt_trichotomy i j with z | z | z
      · exact nd i j l1 l2 z q'.symm
      · exact hne z
      · exact nd j i l2 l1 z q'
  · have : p.1 ∈ fr.map (·.1) := hmap ▸ List.mem_map_of_mem hp
    obtain ⟨q, hq, e⟩ := List.mem_map.mp this
    rw [← e]; exact S.off q hq
theorem map_set_fst {fr : Own} {i : Nat} {a : Addr} {o o' : Obj} (hi : fr[i]? = some (a, o)) : (fr.set i (a, o')).map (·.1) = fr.map (·.1) := by
  have hlt : i < fr.length := (List.getElem?_eq_some_iff.mp hi).1
  have hget : fr[i] = (a, o) := (List.getElem?_eq_some_iff.mp hi).2
  rw [List.map_set]
  refine List.ext_getElem (by simp) fun n h1 h2 => ?_
  rw [List.getElem_set]
  split
  · rename_i e; subst e; simp [hget]
  · rfl
theorem St.ne {a : Addr} {o : Obj} {i : Nat} (S : St C P fr L m h) (hi : fr[i]? = some (a, o)) : L ≠ a := fun e => S.offF (e ▸ List.mem_map.mpr ⟨_, List.mem_of_getElem? hi, rfl⟩)
theorem St.set {a : Addr} {o o' : Obj} {i : Nat} (S : St C P fr L m h) (hi : fr[i]? = some (a, o)) (hs : Heap.SameBut a h h') (ho : h'.get? a = some o') : St C P (fr.set i (a, o')) L m h' :=
  ⟨S.sep.set hi hs ho, S.ns.sameBut hs (S.ne hi), S.offP, by rw [map_set_fst hi]; exact S.offF⟩
theorem St.upd {a : Addr} {o : Obj} {i : Nat} (S : St C P fr L m h) (hi : fr[i]? = some (a, o)) (f : Obj → Obj) (hf : (f o).isFreed = false := by rfl) : St C P (fr.set i (a, f o)) L m (h.update a f) :=
  S.set hi (Heap.SameBut.update ..) (Heap.get?_update_self _ (S.sep.own _ (List.mem_of_getElem? hi)) hf)
/-- the names' dict is changed -/
theorem St.loc {m' : Str → Option Value} (S : St C P fr L m h) (hn : h'.Ns L m') (hs : Heap.SameBut L h h') : St C P fr L m' h' :=
  ⟨⟨S.sep.base, fun b o e => (hs.2 b fun q => by rw [q, S.offP] at e; cases e).trans (S.sep.sub b o e),
    fun p hp => (hs.2 p.1 fun q => S.offF (q ▸ List.mem_map_of_mem hp)).trans (S.sep.own p hp), S.sep.off, S.sep.nd⟩, hn, S.offP, S.offF⟩
theorem St.ext (S : St C P fr L m h) : Ext P h := S.sep.sub

/-- the own things named last, all the rest goes to the lasting part -/
theorem Sep.freeze {own : Own} (S : Sep C P (own ++ fr) h) : ∃ P', Ext P P' ∧ Sep C P' fr h ∧ (∀ p ∈ own, P'.get? p.1 = some p.2) ∧ (∀ b o, h.get? b = some o → b ∉ fr.map (·.1) → P'.get? b = some o) := by
  have hP : ∀ b o, P.get? b = some o → b ∉ fr.map (·.1) := fun b o e q => by
    obtain ⟨p, hp, rfl⟩ := List.mem_map.mp q
    rw [S.off p (List.mem_append_right _ hp)] at e; cases e
  have e : Ext P (hideAll h (fr.map (·.1))) := fun b o q => hideAll_get _ (S.sub b o q) (hP b o q)
  have nd := S.nd
  rw [List.map_append, List.nodup_append] at nd
  refine ⟨hideAll h (fr.map (·.1)), e, ⟨S.base.ext e, fun b o q => of_hideAll _ q, fun p hp => S.own p (List.mem_append_right _ hp), fun p hp => hideAll_none _ (List.mem_map_of_mem hp), nd.2.1⟩, fun p hp => ?_, fun b o q hb => hideAll_get _ q hb⟩
  exact hideAll_get _ (S.own p (List.mem_append_left _ hp)) fun q => nd.2.2 p.1 (List.mem_map_of_mem hp) p.1 q rfl
/-- a frame ends -/
theorem St.leave (S : St C P fr L m h) : Sep C P fr h := S.sep
/-- a frame's dict as a thing that a callee keeps -/
theorem St.toSep (S : St C P fr L m h) : ∃ oL, Sep C P ((L, oL) :: fr) h ∧ ∀ P' fr' h', Sep C P' ((L, oL) :: fr') h' → St C P' fr' L m h' := by
  obtain ⟨oL, es, ep, hL, hd, hk, hf⟩ := S.ns
  refine ⟨oL, ⟨S.sep.base, S.sep.sub, fun p hp => ?_, fun p hp => ?_, List.nodup_cons.mpr ⟨S.offF, S.sep.nd⟩⟩, fun P' fr' h' S' => ⟨S'.drop, ⟨oL, es, ep, S'.own _ (.head _), hd, hk, hf⟩, S'.off _ (.head _), (List.nodup_cons.mp S'.nd).1⟩⟩
  · rcases List.mem_cons.mp hp with rfl | hp
    · exact hL
    · exact S.sep.own p hp
  · rcases List.mem_cons.mp hp with rfl | hp
    · exact S.offP
    · exact S.sep.off p hp
end

/-- what holds of an address: in the lasting part, or owned -/
def Has (P : Heap) (fr : Own) (a : Addr) (o : Obj) : Prop := P.get? a = some o ∨ (a, o) ∈ fr
theorem St.has {C : Cx} {P : Heap} {fr : Own} {L : Addr} {m : Str → Option Value} {h : Heap} {a : Addr} {o : Obj} (S : St C P fr L m h) (x : Has P fr a o) : h.get? a = some o := x.elim (S.sep.sub _ _) (S.sep.own _)
theorem Sep.has {C : Cx} {P : Heap} {fr : Own} {h : Heap} {a : Addr} {o : Obj} (S : Sep C P fr h) (x : Has P fr a o) : h.get? a = some o := x.elim (S.sub _ _) (S.own _)

abbrev LO (vs : List Value) (n : Nat) : Obj := { cls := .type "list", data := .seq vs.toArray n }
abbrev TO (vs : List Value) (n : Nat) : Obj := { cls := .type "tuple", data := .seq vs.toArray n }

section
variable {C : Cx} {A : Around} {P : Heap} {fr : Own} {L : Addr} {m : Str → Option Value} {h : Heap} {env : Env} {x : Str} {pos : Pos} {v : Value} {Q : Value → Heap → Prop} {Qf : Flow → Heap → Prop} {Qb : Bool → Heap → Prop}

/-! ## names -/
theorem w_loc (S : St C P fr L m h) (hv : m x = some v) (q : Q v h) (hL : env.locals = L := by with_unfolding_all rfl) (hk : env.scope.kind = .function := by with_unfolding_all rfl)
    (hl : env.kindOf x = some .local := by with_unfolding_all rfl) (hd : (x == ("__debug__" : Str)) = false := by decide +kernel) : W C A (eval (.Name x pos) env) Q h :=
  W.of fun _ _ g => wpAny_Name (wpAny_loadName_local hk hl (hL ▸ S.ns) hv (g _ _ _ q)) hd
theorem w_cell {c : Addr} {o : Obj} (S : St C P fr L m h) (hc : env.cells.lookup x = some c) (hm : (c, o) ∈ fr) (ho : o.data = .cell (some v)) (q : Q v h) (hk : env.scope.kind = .function := by with_unfolding_all rfl)
    (hl : env.kindOf x = some .cell := by with_unfolding_all rfl) (hd : (x == ("__debug__" : Str)) = false := by decide +kernel) : W C A (eval (.Name x pos) env) Q h :=
  W.of fun _ _ g => wpAny_Name (wpAny_loadName_cell hk hl hc ⟨o, S.sep.own _ hm, ho⟩ (g _ _ _ q)) hd
theorem w_free {c : Addr} {o : Obj} (S : St C P fr L m h) (hc : env.cells.lookup x = some c) (hm : (c, o) ∈ fr) (ho : o.data = .cell (some v)) (q : Q v h) (hk : env.scope.kind = .function := by with_unfolding_all rfl)
    (hl : env.kindOf x = some .free := by with_unfolding_all rfl) (hd : (x == ("__debug__" : Str)) = false := by decide +kernel) (hn : (x == ("__classdict__" : Str)) = false := by decide +kernel) : W C A (eval (.Name x pos) env) Q h :=
  W.of fun _ _ g => wpAny_Name (wpAny_loadName_free hk hl hc ⟨o, S.sep.own _ hm, ho⟩ (g _ _ _ q) hn) hd
theorem w_glob (S : St C P fr L m h) (e : nsIn (hd.heap_39 C.w.params) mainGlobals x = some (some v)) (q : Q v h) (hG : env.globals = mainGlobals := by with_unfolding_all rfl) (hk : env.scope.kind = .function := by with_unfolding_all rfl)
    (hx : env.kindOf x = some .globalImplicit := by with_unfolding_all rfl) (hd : (x == ("__debug__" : Str)) = false := by decide +kernel) : W C A (eval (.Name x pos) env) Q h :=
  W.of fun _ _ g => by
    obtain ⟨p, l, mg, mb, T⟩ := S.sep.base.t
    exact PySem.Calls.Name_function_global hk hx (PySem.Calls.loadGlobal_global (env := env) (mg := mg) (hG ▸ T.g.keeps S.ext) (mg_of S.sep.base.k T.g e) (g _ _ _ q)) hd
theorem w_bi (S : St C P fr L m h) (e : nsIn (hd.heap_39 C.w.params) mainGlobals x = some none) (hv : bootBuiltins x = some v) (q : Q v h) (hn : x ≠ "__name__" := by decide +kernel) (hG : env.globals = mainGlobals := by with_unfolding_all rfl)
    (hB : env.builtins = builtinsNs := by with_unfolding_all rfl) (hk : env.scope.kind = .function := by with_unfolding_all rfl)
    (hx : env.kindOf x = some .globalImplicit := by with_unfolding_all rfl) (hd : (x == ("__debug__" : Str)) = false := by decide +kernel) : W C A (eval (.Name x pos) env) Q h :=
  W.of fun _ _ g => by
    obtain ⟨p, l, mg, mb, T⟩ := S.sep.base.t
    exact PySem.Calls.Name_function_global hk hx (PySem.Calls.loadGlobal_builtin (env := env) (mg := mg) (mb := mb) (hG ▸ T.g.keeps S.ext) (mg_none_of S.sep.base.k T.g e) (hB ▸ T.b.keeps S.ext) ((T.builtins x hn).trans hv) (g _ _ _ q)) hd
theorem w_st_loc {Qu : Unit → Heap → Prop} (S : St C P fr L m h) (q : ∀ h', St C P fr L (fun y => if y = x then some v else m y) h' → Qu () h') (hL : env.locals = L := by with_unfolding_all rfl)
    (hk : env.scope.kind = .function := by with_unfolding_all rfl) (hl : env.kindOf x = some .local := by with_unfolding_all rfl) : W C A (storeName env x v) Qu h :=
  W.of fun _ _ g => wpAny_storeName_local hl (hL ▸ S.ns) (fun h' hn hs => g _ _ _ (q h' (S.loc (hL ▸ hn) (hL ▸ hs)))) (by rw [hk]; rfl)
theorem w_st_cell {Qu : Unit → Heap → Prop} {c : Addr} {o : Obj} {v₀ : Option Value} {i : Nat} (S : St C P fr L m h) (hc : env.cells.lookup x = some c) (hi : fr[i]? = some (c, o)) (ho : o.data = .cell v₀)
    (q : ∀ h' o', o'.data = .cell (some v) → St C P (fr.set i (c, o')) L m h' → Qu () h')
    (hk : env.scope.kind = .function := by with_unfolding_all rfl) (hl : env.kindOf x = some .cell := by with_unfolding_all rfl) : W C A (storeName env x v) Qu h :=
  W.of fun _ _ g => wpAny_storeName_cell hk hl hc ⟨o, S.sep.own _ (List.mem_of_getElem? hi), ho⟩ fun h' ⟨o', ho', hd'⟩ hs => g _ _ _ (q h' o' hd' (S.set hi hs ho'))

/-! ## constants, operators -/
theorem w_int {i : Int} {k : Nat} (q : ∀ t, Q (.int i t) h) : W C A (eval (.Constant (.int i) k pos) env) Q h := W.of fun _ _ g => wpAny_Constant_int (g _ _ _ (q _))
theorem w_str {i : Str} {k : Nat} (q : ∀ t, Q (.str i t) h) : W C A (eval (.Constant (.str i) k pos) env) Q h := W.of fun _ _ g => wpAny_Constant_str (g _ _ _ (q _))
theorem w_none {k : Nat} (q : Q .none h) : W C A (eval (.Constant .none k pos) env) Q h := W.of fun _ _ g => wpAny_Constant_none (g _ _ _ q)
theorem w_bool {b : Bool} {k : Nat} (q : Q (.bool b) h) : W C A (eval (.Constant (.bool b) k pos) env) Q h := W.of fun _ _ g => wpAny_Constant_bool (g _ _ _ q)
theorem w_binop {l r : Expr} {op : Operator} (q : W C A (eval l env) (fun a h₁ => W C A (eval r env) (fun b h₂ => W C A (binaryOp op a b) Q h₂) h₁) h) : W C A (eval (.BinOp l op r pos) env) Q h :=
  W.of fun _ _ g => wpAny_BinOp (q.use fun _ _ _ q => q.use fun _ _ _ q => q.use g)
theorem w_unop {x : Expr} {op : UnaryOp} (q : W C A (eval x env) (fun a h₁ => W C A (unaryOp op a) Q h₁) h) : W C A (eval (.UnaryOp op x pos) env) Q h :=
  W.of fun _ _ g => wpAny_UnaryOp (q.use fun _ _ _ q => q.use g)
theorem w_cmp {l r : Expr} {op : CmpOp} (q : W C A (eval l env) (fun a h₁ => W C A (eval r env) (fun b h₂ => W C A (compareOp op a b) Q h₂) h₁) h) (hm : behindInMarks op r = false := by with_unfolding_all rfl) :
    W C A (eval (.Compare l [op] [r] pos) env) Q h := W.of fun _ _ g => wpAny_Compare1 (q.use fun _ _ _ q => q.use fun _ _ _ q => q.use g) hm
theorem w_t_cmp {l r : Expr} {op : CmpOp} {whole : Sem Value} (q : W C A (eval l env) (fun a h₁ => W C A (eval r env) (fun b h₂ => W C A (compareOp op a b) (fun c h₃ => W C A (truthy c) Qb h₃) h₂) h₁) h)
    (hm : behindInMarks op r = false := by with_unfolding_all rfl) : W C A (isTrue (.Compare l [op] [r] pos) env whole) Qb h :=
  W.of fun _ _ g => wpAny_isTrue_Compare1 (q.use fun _ _ _ q => q.use fun _ _ _ q => q.use fun _ _ _ q => q.use g) hm
theorem w_t_not {x : Expr} {whole : Sem Value} (q : W C A (isTrue x env (eval x env)) (fun b h₁ => Qb (!b) h₁) h) : W C A (isTrue (.UnaryOp .Not x pos) env whole) Qb h :=
  W.of fun _ _ g => wpAny_isTrue_Not (q.use fun _ _ _ q => g _ _ _ q)
theorem w_t_bool {op : BoolOp} {vs : List Expr} {whole : Sem Value} (q : W C A (allTrue op vs env) Qb h) : W C A (isTrue (.BoolOp op vs pos) env whole) Qb h :=
  W.of fun _ _ g => wpAny_isTrue_BoolOp (q.use g)
theorem w_t_val {e : Expr} {whole : Sem Value} (q : W C A whole (fun v h₁ => W C A (truthy v) Qb h₁) h) (he : isTrue e env whole = (do let v ← whole; standAt e.pos; holding [v] (truthy v)) := by with_unfolding_all rfl) :
    W C A (isTrue e env whole) Qb h := W.of fun _ _ g => wpAny_isTrue_value (q.use fun _ _ _ q => q.use g) he
theorem w_and0 (q : Qb true h) : W C A (allTrue .And [] env) Qb h := W.of fun _ _ g => wpAny_allTrue_And_nil (g _ _ _ q)
theorem w_or0 (q : Qb false h) : W C A (allTrue .Or [] env) Qb h := W.of fun _ _ g => wpAny_allTrue_Or_nil (g _ _ _ q)
theorem w_and1 {x : Expr} {r : List Expr} (q : W C A (isTrue x env (eval x env)) (fun b h₁ => (b = true → W C A (allTrue .And r env) Qb h₁) ∧ (b = false → Qb false h₁)) h) : W C A (allTrue .And (x :: r) env) Qb h :=
  W.of fun _ _ g => wpAny_allTrue_And_cons (q.use fun b _ _ q => by cases b; exact g _ _ _ (q.2 rfl); exact (q.1 rfl).use g)
theorem w_or1 {x : Expr} {r : List Expr} (q : W C A (isTrue x env (eval x env)) (fun b h₁ => (b = true → Qb true h₁) ∧ (b = false → W C A (allTrue .Or r env) Qb h₁)) h) : W C A (allTrue .Or (x :: r) env) Qb h :=
  W.of fun _ _ g => wpAny_allTrue_Or_cons (q.use fun b _ _ q => by cases b; exact (q.2 rfl).use g; exact g _ _ _ (q.1 rfl))
theorem w_or2 {x y : Expr} (q : W C A (eval x env) (fun v h₁ => W C A (truthy v) (fun t h₂ => (t = true → Q v h₂) ∧ (t = false → W C A (eval y env) Q h₂)) h₁) h) : W C A (eval (.BoolOp .Or [x, y] pos) env) Q h :=
  W.of fun _ _ g => wpAny_Or2 (q.use fun _ _ _ q => q.use fun b _ _ q => by cases b; exact (q.2 rfl).use g; exact g _ _ _ (q.1 rfl))
theorem w_ifexp {c a b : Expr} (q : W C A (isTrue c env (eval c env)) (fun t h₁ => (t = true → W C A (eval a env) Q h₁) ∧ (t = false → W C A (eval b env) Q h₁)) h) : W C A (eval (.IfExp c a b pos) env) Q h :=
  W.of fun _ _ g => wpAny_IfExp (q.use fun t _ _ q => by cases t; exact (q.2 rfl).use g; exact (q.1 rfl).use g)
theorem w_tr_bool {b : Bool} (q : Qb b h) : W C A (truthy (.bool b)) Qb h := W.of fun _ _ g => wpAny_truthy_bool (g _ _ _ q)

section
variable {a b : Int} {t u : Tok}
theorem w_add (q : ∀ t, Q (.int (a + b) t) h) : W C A (binaryOp .Add (.int a t) (.int b u)) Q h := W.of fun _ _ g => PyProof.Rows.add_int (g _ _ _ (q _))
theorem w_sub (q : ∀ t, Q (.int (a - b) t) h) : W C A (binaryOp .Sub (.int a t) (.int b u)) Q h := W.of fun _ _ g => PyProof.Rows.sub_int (g _ _ _ (q _))
theorem w_mul (hm : IntMulOk a b) (q : ∀ t, Q (.int (a * b) t) h) : W C A (binaryOp .Mult (.int a t) (.int b u)) Q h := W.of fun _ _ g => PyProof.Rows.mul_int (g _ _ _ (q _)) hm
theorem w_mod (hb : b ≠ 0) (q : ∀ t, Q (.int (a.fmod b) t) h) : W C A (binaryOp .Mod (.int a t) (.int b u)) Q h := W.of fun _ _ g => mod_int' hb (g _ _ _ (q _))
theorem w_div (hb : b ≠ 0) (hp : Builtin.divisionGoesByPylong a b = false) (q : ∀ t, Q (.int (a.fdiv b) t) h) : W C A (binaryOp .FloorDiv (.int a t) (.int b u)) Q h := W.of fun _ _ g => floordiv_int hb (g _ _ _ (q _)) (.inl hp)
theorem w_pow (hn : 0 ≤ b) (hsz : (Builtin.Int.intBits a : Int) * b ≤ 2 ^ 27) (q : ∀ t, Q (.int (a ^ b.toNat) t) h) : W C A (binaryOp .Pow (.int a t) (.int b u)) Q h := W.of fun _ _ g => pow_int hn hsz (g _ _ _ (q _))
theorem w_neg (q : ∀ t, Q (.int (-a) t) h) : W C A (unaryOp .USub (.int a t)) Q h := W.of fun _ _ g => PyProof.Rows.neg_int (g _ _ _ (q _))
theorem w_iadd (q : ∀ t, Q (.int (a + b) t) h) : W C A (inplaceOp .Add (.int a t) (.int b u)) Q h := W.of fun _ _ g => wpAny_iadd_int (g _ _ _ (q _))
theorem w_lt (q : Q (.bool (decide (a < b))) h) : W C A (compareOp .Lt (.int a t) (.int b u)) Q h := W.of fun _ _ g => PyProof.Rows.lt_int (g _ _ _ q)
theorem w_gt (q : Q (.bool (decide (b < a))) h) : W C A (compareOp .Gt (.int a t) (.int b u)) Q h := W.of fun _ _ g => PyProof.Rows.gt_int (g _ _ _ q)
theorem w_le (q : Q (.bool (decide (a ≤ b))) h) : W C A (compareOp .LtE (.int a t) (.int b u)) Q h := W.of fun _ _ g => PyProof.Rows.le_int (g _ _ _ q)
theorem w_ge (q : Q (.bool (decide (b ≤ a))) h) : W C A (compareOp .GtE (.int a t) (.int b u)) Q h := W.of fun _ _ g => PyProof.Rows.ge_int (g _ _ _ q)
theorem w_eqi (q : Q (.bool (a == b)) h) : W C A (compareOp .Eq (.int a t) (.int b u)) Q h := W.of fun _ _ g => PyProof.Rows.eq_int (g _ _ _ q)
theorem w_nei (q : Q (.bool (a != b)) h) : W C A (compareOp .NotEq (.int a t) (.int b u)) Q h := W.of fun _ _ g => PyProof.Rows.ne_int (g _ _ _ q)
end
section
variable {a b : Str} {t u : Tok}
theorem w_eqs (q : Q (.bool (a == b)) h) : W C A (compareOp .Eq (.str a t) (.str b u)) Q h := W.of fun _ _ g => PyProof.Rows.eq_str (g _ _ _ q)
theorem w_nes (q : Q (.bool (a != b)) h) : W C A (compareOp .NotEq (.str a t) (.str b u)) Q h := W.of fun _ _ g => PyProof.Rows.ne_str (g _ _ _ q)
theorem w_adds (hz : a.length + b.length ≤ sizeLine) (q : ∀ t, Q (.str (a ++ b) t) h) : W C A (binaryOp .Add (.str a t) (.str b u)) Q h := W.of fun _ _ g => PyProof.Rows.add_str (fun _ _ => g _ _ _ (q _)) hz
end
theorem w_is0 (q : Q (.bool (v == .none)) h) : W C A (compareOp .Is v .none) Q h := W.of fun _ _ g => is_none (g _ _ _ q)
theorem w_isnot0 (q : Q (.bool (!(v == .none))) h) : W C A (compareOp .IsNot v .none) Q h := W.of fun _ _ g => isNot_none (g _ _ _ q)

/-! ## statements -/
theorem w_nil (q : Qf .next h) : W C A (execs [] env) Qf h := W.of fun _ _ g => wpAny_execs_nil (g _ _ _ q)
def Fl (Qn : Heap → Prop) (Qf : Flow → Heap → Prop) (f : Flow) (h : Heap) : Prop := match f with | .next => Qn h | f => Qf f h
theorem Fl.next {Qn : Heap → Prop} {Qf : Flow → Heap → Prop} {h : Heap} (q : Qn h) : Fl Qn Qf .next h := q
theorem Fl.ret {Qn : Heap → Prop} {Qf : Flow → Heap → Prop} {h : Heap} {v : Value} (q : Qf (.ret v) h) : Fl Qn Qf (.ret v) h := q
theorem Fl.cont {Qn : Heap → Prop} {Qf : Flow → Heap → Prop} {h : Heap} (q : Qf .cont h) : Fl Qn Qf .cont h := q
theorem w_cons {s : Stmt} {r : List Stmt} (q : W C A (exec s env) (Fl (fun h₁ => W C A (execs r env) Qf h₁) Qf) h) : W C A (execs (s :: r) env) Qf h :=
  W.of fun _ _ g => wpAny_execs_cons (q.use fun f _ _ q => by cases f <;> first | exact W.use q g | exact g _ _ _ q)
theorem w_ret {e : Expr} (q : W C A (eval e env) (fun v h₁ => Qf (.ret v) h₁) h) : W C A (exec (.Return (some e) pos) env) Qf h := W.of fun _ _ g => wpAny_Return_some (q.use fun _ _ _ q => g _ _ _ q)
theorem w_continue (q : Qf .cont h) : W C A (exec (.Continue pos) env) Qf h := W.of fun _ _ g => wpAny_Continue (g _ _ _ q)
theorem w_assign {e : Expr} {p' : Pos} (q : W C A (eval e env) (fun v h₁ => W C A (storeName env x v) (fun _ h₂ => Qf .next h₂) h₁) h) (hs : swapsWith e (some (.Name x p')) pos.line env = pure false := by with_unfolding_all rfl) :
    W C A (exec (.Assign [.Name x p'] e pos) env) Qf h := W.of fun _ _ g => wpAny_Assign_Name (q.use fun _ _ _ q => q.use fun _ _ _ q => g _ _ _ q) hs
theorem w_aug {e : Expr} {p' : Pos} {op : Operator} (q : W C A (loadName env x) (fun old h₁ => W C A (eval e env) (fun v h₂ => W C A (inplaceOp op old v) (fun r h₃ => W C A (storeName env x r) (fun _ h₄ => Qf .next h₄) h₃) h₂) h₁) h) :
    W C A (exec (.AugAssign (.Name x p') op e pos) env) Qf h := W.of fun _ _ g => wpAny_AugAssign_Name (q.use fun _ _ _ q => q.use fun _ _ _ q => q.use fun _ _ _ q => q.use fun _ _ _ q => g _ _ _ q)
theorem w_ldname (S : St C P fr L m h) (hv : m x = some v) (q : Q v h) (hL : env.locals = L := by with_unfolding_all rfl) (hk : env.scope.kind = .function := by with_unfolding_all rfl)
    (hl : env.kindOf x = some .local := by with_unfolding_all rfl) : W C A (loadName env x) Q h := W.of fun _ _ g => wpAny_loadName_local hk hl (hL ▸ S.ns) hv (g _ _ _ q)
theorem w_if {c : Expr} {a b : List Stmt} (q : W C A (isTrue c env (eval c env)) (fun t h₁ => (t = true → W C A (execs a env) Qf h₁) ∧ (t = false → W C A (execs b env) Qf h₁)) h) : W C A (exec (.If c a b pos) env) Qf h :=
  W.of fun _ _ g => wpAny_If (q.use fun t _ _ q => by cases t; exact (q.2 rfl).use g; exact (q.1 rfl).use g)
theorem w_expr0 {e : Expr} (q : W C A (eval e env) (fun v h₁ => v = .none ∧ Qf .next h₁) h) (hi : interactive env = false := by with_unfolding_all rfl) (hs : swapsWith e none pos.line env = pure false := by with_unfolding_all rfl) :
    W C A (exec (.Expr e pos) env) Qf h := W.of fun _ _ g => wpAny_Expr (q.use fun v h' k' ⟨e, z⟩ => by rw [e]; exact g _ _ _ z) hi hs
theorem w_setattr {o : Expr} {attr : Str} {e : Expr} {p' : Pos} (q : W C A (eval e env) (fun v h₁ => W C A (eval o env) (fun ov h₂ => W C A (setAttr ov attr v) (fun _ h₃ => Qf .next h₃) h₂) h₁) h)
    (hs : swapsWith e (some (.Attribute o attr p')) pos.line env = pure false := by with_unfolding_all rfl) : W C A (exec (.Assign [.Attribute o attr p'] e pos) env) Qf h :=
  W.of fun _ _ g => plainObj_wpAny_Assign_Attribute (q.use fun _ _ _ q => q.use fun _ _ _ q => q.use fun _ _ _ q => g _ _ _ q) hs
theorem w_setsub {o i : Expr} {e : Expr} {p' : Pos} (q : W C A (eval e env) (fun v h₁ => W C A (eval o env) (fun ov h₂ => W C A (eval i env) (fun iv h₃ => W C A (setItem ov iv v) (fun _ h₄ => Qf .next h₄) h₃) h₂) h₁) h)
    (hs : swapsWith e (some (.Subscript o i p')) pos.line env = pure false := by with_unfolding_all rfl) : W C A (exec (.Assign [.Subscript o i p'] e pos) env) Qf h :=
  W.of fun _ _ g => wpAny_Assign_Subscript (q.use fun _ _ _ q => q.use fun _ _ _ q => q.use fun _ _ _ q => q.use fun _ _ _ q => g _ _ _ q) hs
theorem w_settup {elts : List Expr} {k : Nat} {tp : Pos} {e : Expr} (q : W C A (eval e env) (fun v h₁ => W C A (assign (.Tuple elts k tp) env v) (fun _ h₂ => Qf .next h₂) h₁) h)
    (hs : swapsWithSole [.Tuple elts k tp] e pos.line env = pure false := by with_unfolding_all rfl) (hw : swappedStores [.Tuple elts k tp] e env = pure none := by with_unfolding_all rfl) :
    W C A (exec (.Assign [.Tuple elts k tp] e pos) env) Qf h := W.of fun _ _ g => Assign_Tuple (q.use fun _ _ _ q => q.use fun _ _ _ q => g _ _ _ q) hs hw

/-! ## calls -/
def args (es : List Expr) (pos : Pos) (env : Env) : Sem (List Value) := spliced (backTo pos (starEach es env))
variable {Ql : List Value → Heap → Prop}
theorem w_args0 (q : Ql [] h) : W C A (args [] pos env) Ql h := W.of fun _ _ g => wpAny_items_nil (g _ _ _ q)
theorem w_args1 {e : Expr} {r : List Expr} (q : W C A (eval e env) (fun v h₁ => W C A (args r pos env) (fun vs h₂ => Ql (v :: vs) h₂) h₁) h) (he : starEach (e :: r) env = (false, eval e env) :: starEach r env := by with_unfolding_all rfl) :
    W C A (args (e :: r) pos env) Ql h := W.of fun _ _ g => wpAny_items_cons (q.use fun _ _ _ q => q.use fun _ _ _ q => g _ _ _ q) he
theorem w_list {es : List Expr} (q : W C A (args es pos env) (fun vs h₁ => W C A (newList vs) Q h₁) h) : W C A (eval (.List es pos) env) Q h := W.of fun _ _ g => List_ (q.use fun _ _ _ q => q.use g)
theorem w_tuple {es : List Expr} {k : Nat} (q : W C A (args es pos env) (fun vs h₁ => W C A (newTuple vs) Q h₁) h) : W C A (eval (.Tuple es k pos) env) Q h := W.of fun _ _ g => Tuple_ (q.use fun _ _ _ q => q.use g)
theorem w_call {f : Expr} {es : List Expr} (q : W C A (eval f env) (fun fv h₁ => W C A (callWith pos fv [] (backTo pos (starEach es env)) []) Q h₁) h)
    (he : eval (.Call f es [] pos) env = (do callWith pos (← eval f env) [] (backTo pos (starEach es env)) (backToKw pos (keywordEach [] env))) := by with_unfolding_all rfl) : W C A (eval (.Call f es [] pos) env) Q h :=
  W.of fun _ _ g => Call_ (q.use fun _ _ _ q => q.use g) he
theorem w_cw_K {f : Value} {first : List Value} {e : Expr} {r : List Expr} (hk : keepIn (hd.heap_39 C.w.params) f = true)
    (q : W C A (args (e :: r) pos env) (fun vs h₁ => (hd.heap_39 C.w.params).In h₁ ∧ W C A (call f (first ++ vs)) Q h₁) h)
    (he : starEach (e :: r) env = (false, eval e env) :: starEach r env := by with_unfolding_all rfl) (hp : (backTo pos (starEach r env)).any (·.1) = false := by with_unfolding_all rfl) :
    W C A (callWith pos f first (backTo pos (starEach (e :: r) env)) []) Q h :=
  W.of fun k _ g => by
    have q' := q.use (k := k) (Q' := fun vs s₁ => (hd.heap_39 C.w.params).In s₁.heap ∧ wpAny C.M A (call f (first ++ vs)) _ (fun _ _ => False) s₁) (E := fun _ _ => False) fun _ _ _ q => ⟨q.1, q.2.use g⟩
    unfold args at q'
    rw [he] at q' ⊢
    exact callWith_of (by show ((false || (backTo pos (starEach r env)).any (·.1)) || false) = false; rw [hp]; rfl) (keeps_K hk) (PySem.Calls.evalArgs_plain q')
theorem w_cw_0 {f : Value} {first : List Value} (hk : keepIn (hd.heap_39 C.w.params) f = true) (X : (hd.heap_39 C.w.params).In h) (q : W C A (call f (first ++ [])) Q h) : W C A (callWith pos f first (backTo pos (starEach [] env)) []) Q h :=
  W.of fun _ _ g => callWith_of (P := (hd.heap_39 C.w.params).In) rfl (keeps_K hk) (evalArgs_nil3 ⟨X, q.use g⟩)
/-- what is called is no heap object -/
theorem w_cw_B {f : Value} {first : List Value} {e : Expr} {r : List Expr} (hf : (match f with | .ref _ => false | _ => true) = true)
    (q : W C A (args (e :: r) pos env) (fun vs h₁ => W C A (call f (first ++ vs)) Q h₁) h)
    (he : starEach (e :: r) env = (false, eval e env) :: starEach r env := by with_unfolding_all rfl) (hp : (backTo pos (starEach r env)).any (·.1) = false := by with_unfolding_all rfl) :
    W C A (callWith pos f first (backTo pos (starEach (e :: r) env)) []) Q h :=
  W.of fun k _ g => by
    have q' := q.use (k := k) (Q' := fun vs s₁ => True ∧ wpAny C.M A (call f (first ++ vs)) _ (fun _ _ => False) s₁) (E := fun _ _ => False) fun _ _ _ q => ⟨trivial, q.use g⟩
    unfold args at q'
    rw [he] at q' ⊢
    exact callWith_of (P := fun _ => True) (by show ((false || (backTo pos (starEach r env)).any (·.1)) || false) = false; rw [hp]; rfl)
      (fun _ _ => ⟨.machine, .inr (.inl rfl), Looks.of_pure (by cases f <;> first | rfl | cases hf)⟩) (PySem.Calls.evalArgs_plain q')
theorem w_cw_B0 {f : Value} {first : List Value} (hf : (match f with | .ref _ => false | _ => true) = true) (q : W C A (call f (first ++ [])) Q h) : W C A (callWith pos f first (backTo pos (starEach [] env)) []) Q h :=
  W.of fun _ _ g => callWith_of (P := fun _ => True) rfl (fun _ _ => ⟨.machine, .inr (.inl rfl), Looks.of_pure (by cases f <;> first | rfl | cases hf)⟩) (evalArgs_nil3 ⟨trivial, q.use g⟩)
theorem w_meth {o : Expr} {name : Str} {apos : Pos} {es : List Expr} {pl : Sem Bool} (q : W C A (eval o env) (fun ov h₁ => W C A (getMethod ov name pl) (fun fx h₂ => W C A (callWith pos fx.1 fx.2 (backTo pos (starEach es env)) []) Q h₂) h₁) h)
    (he : eval (.Call (.Attribute o name apos) es [] pos) env = (do
      let ov ← eval o env
      standAt apos.atName
      let (f, first) ← holding [ov] (getMethod ov name pl)
      callWith pos f first (backTo pos (starEach es env)) (backToKw pos (keywordEach [] env))) := by with_unfolding_all rfl) : W C A (eval (.Call (.Attribute o name apos) es [] pos) env) Q h :=
  W.of fun _ _ g => methodCall_KW (q.use fun _ _ _ q => q.use fun _ _ _ q => q.use g) he
theorem w_attr {o : Expr} {attr : Str} (q : W C A (eval o env) (fun ov h₁ => W C A (getAttr ov attr true) Q h₁) h)
    (he : eval (.Attribute o attr pos) env = (do
      let v ← eval o env
      standAt pos.atName
      let r ← holding [v] (getAttr v attr true)
      letTemporaryGo o v r
      pure r) := by with_unfolding_all rfl) : W C A (eval (.Attribute o attr pos) env) Q h := W.of fun _ _ g => Attribute_any_ (q.use fun _ _ _ q => q.use g) he
theorem w_sub_ {o i : Expr} (q : W C A (eval o env) (fun ov h₁ => W C A (eval i env) (fun iv h₂ => W C A (subscriptTail o i ov iv) Q h₂) h₁) h) : W C A (eval (.Subscript o i pos) env) Q h :=
  W.of fun _ _ g => Subscript_ (q.use fun _ _ _ q => q.use fun _ _ _ q => q.use g)
end

def WK (C : Cx) (A : Around) (c : Code) (Q : Value → Heap → Prop) (h : Heap) : Prop :=
  ∀ k, codeAny C.M A c (fun r s' => ∃ v h' k', r = .ok (.ret v) ∧ s' = C.st h' k' ∧ Q v h') (C.st h k)
theorem WK.of {C : Cx} {A : Around} {c : Code} {Q : Value → Heap → Prop} {h : Heap} (f : ∀ k (R : Result → Shared → Prop), (∀ v h' k', Q v h' → R (.ok (.ret v)) (C.st h' k')) → codeAny C.M A c R (C.st h k)) : WK C A c Q h :=
  fun k => f k _ fun _ h' k' q => ⟨_, h', k', rfl, rfl, q⟩
theorem WK.use {C : Cx} {A : Around} {c : Code} {Q : Value → Heap → Prop} {h : Heap} {k : Nat} {R : Result → Shared → Prop} (x : WK C A c Q h) (f : ∀ v h' k', Q v h' → R (.ok (.ret v)) (C.st h' k')) : codeAny C.M A c R (C.st h k) :=
  codeAny_mono (x k) fun _ _ ⟨v, h', k', e1, e2, q⟩ => by subst e1; subst e2; exact f v h' k' q
theorem WK.w {C : Cx} {A : Around} {f : Value} {as : List Value} {Q : Value → Heap → Prop} {h : Heap} (x : WK C A (.call f ⟨as, []⟩) Q h) : W C A (call f as) Q h :=
  W.of fun _ _ g => wpAny_call (x.use g)
/-- what a def hands back -/
def Rt (Q : Value → Heap → Prop) (fl : Flow) (h : Heap) : Prop := Q (match fl with | .ret v => v | _ => .none) h
theorem Rt.ret {Q : Value → Heap → Prop} {v : Value} {h : Heap} (q : Q v h) : Rt Q (.ret v) h := q
theorem Rt.next {Q : Value → Heap → Prop} {h : Heap} (q : Q .none h) : Rt Q .next h := q
section
variable {C : Cx} {A : Around} {P : Heap} {fr : Own} {L : Addr} {m : Str → Option Value} {h : Heap} {Q : Value → Heap → Prop}
theorem w_newList {vs : List Value} (S : St C P fr L m h) (q : ∀ a h', St C P ((a, LO vs 0) :: fr) L m h' → Q (.ref a) h') (hz : vs.length ≤ sizeLine := by size_fits) : W C A (newList vs) Q h :=
  W.of fun _ _ g => wpAny_newObj_type (g _ _ _ (q _ _ (S.push _))) (by show vs.toArray.size ≤ sizeLine; rw [List.size_toArray]; exact hz)
theorem w_newTuple {vs : List Value} (S : St C P fr L m h) (q : ∀ a h', St C P ((a, TO vs 0) :: fr) L m h' → Q (.ref a) h') (hz : vs.length ≤ sizeLine := by size_fits) : W C A (newTuple vs) Q h :=
  W.of fun _ _ g => wpAny_newObj_type (g _ _ _ (q _ _ (S.push _))) (by show vs.toArray.size ≤ sizeLine; rw [List.size_toArray]; exact hz)

/-- a def of the text without cells is called -/
theorem k_def {name qual : Str} {params : Arguments} {body : List Stmt} {scope : Scope} {dV kV doc pm cdv ct oc : Value} {an od : Option Addr} {osl : Array (Option Value)} {f : Addr} {as : List Value} {binds : List (Str × Value)} {n : Nat}
    (S : Sep C P fr h) (r : Rm A n) (ho : (hd.heap_39 C.w.params).lookup f = some ⟨oc, od, .func (fnOf name qual params body scope dV kV doc pm an cdv ct), osl⟩) (hcd : codeIn (hd.heap_39 C.w.params) cdv qual = true)
    (hb : ∀ k, BindsTo (C.st h k) (fnOf name qual params body scope dV kV doc pm an cdv ct) ⟨as, []⟩ binds) (hloc : ∀ y ∈ binds, scope.names.lookup y.1 = some .local)
    (hcell : ∀ x ∈ scope.names, x.2 ≠ .cell) (hco : scope.isCoroutine = false) (hgen : scope.isGenerator = false) (hk : scope.kind = .function)
    (q : ∀ L h₁, St C P fr L (fun y => binds.reverse.lookup y) h₁ → Ext h h₁ → Gn (Rt Q) fun Qf => W C (A.deeper (envX qual scope L f cdv [])) (execs body (envX qual scope L f cdv [])) Qf h₁) :
    WK C A (.call (.ref f) ⟨as, []⟩) Q h := WK.of fun k Q' g => by
  obtain ⟨p, l, mg, mb, T⟩ := S.base.t
  have X : (hd.heap_39 C.w.params).In h := S.base.k.keeps S.sub
  refine (codeAny_call_def (fd := fnOf name qual params body scope dV kV doc pm an cdv ct) (body := body) (binds := binds) r.room (X _ _ ho) rfl (T.nolimit.keeps S.sub) (codeRec_of X hcd) rfl (hb k) hcell hloc (fun h₁ hns hk₁ => ?_) hco hgen hk)
  have Z : St C P fr h.objs.size (fun y => binds.reverse.lookup y) h₁ := ⟨S.keep hk₁, hns, by
      cases q : P.get? h.objs.size with
      | none => rfl
      | some o => exact absurd (Heap.lt_size (S.sub _ _ q)) (Nat.lt_irrefl _), fun q => by
      obtain ⟨p, hp, e⟩ := List.mem_map.mp q
      have := S.own p hp
      rw [e, none_size] at this; cases this⟩
  exact wpAny_mono ((q _ _ Z hk₁).self.use (Q' := fun fl s' => Q' (.ok (.ret (match fl with | .ret v => v | _ => .none))) s') (E := fun _ _ => False) fun fl h' _ z => by cases fl <;> exact g _ h' _ z) (fun _ _ z => z) fun _ _ z => z.elim
/-- a def of the text with cells is called -/
theorem k_defC {name qual : Str} {params : Arguments} {body : List Stmt} {scope : Scope} {dV kV doc pm cdv ct oc : Value} {an od : Option Addr} {osl : Array (Option Value)} {f : Addr} {as : List Value} {binds : List (Str × Value)} {n : Nat}
    (S : Sep C P fr h) (r : Rm A n) (ho : (hd.heap_39 C.w.params).lookup f = some ⟨oc, od, .func (fnOf name qual params body scope dV kV doc pm an cdv ct), osl⟩) (hcd : codeIn (hd.heap_39 C.w.params) cdv qual = true)
    (hb : ∀ k, BindsTo (C.st h k) (fnOf name qual params body scope dV kV doc pm an cdv ct) ⟨as, []⟩ binds)
    (hkind : (binds.all fun y => scope.names.lookup y.1 == some .local || scope.names.lookup y.1 == some .cell) = true)
    (hnd : ((cellsFrom 0 scope.names []).map (·.1)).Nodup) (hco : scope.isCoroutine = false) (hgen : scope.isGenerator = false) (hk : scope.kind = .function)
    (q : ∀ L h₁ cells, St C P (cells ++ fr) L (bindL (envX qual scope L f cdv (cellsFrom (L + 1) scope.names [])).kindOf binds fun _ => none) h₁ → Ext h h₁ →
      CellsAre (bindC (envX qual scope L f cdv (cellsFrom (L + 1) scope.names [])).kindOf binds fun _ => none) (cellsFrom (L + 1) scope.names []) cells →
      Gn (Rt Q) fun Qf => W C (A.deeper (envX qual scope L f cdv (cellsFrom (L + 1) scope.names []))) (execs body (envX qual scope L f cdv (cellsFrom (L + 1) scope.names []))) Qf h₁) :
    WK C A (.call (.ref f) ⟨as, []⟩) Q h := WK.of fun k Q' g => by
  obtain ⟨p, l, mg, mb, T⟩ := S.base.t
  have X : (hd.heap_39 C.w.params).In h := S.base.k.keeps S.sub
  refine (codeAny_call_function r.room (X _ _ ho) rfl hco hgen rfl (codeRec_of X hcd) ((hb k) _ _ _ _ ?_))
  refine wpAny_newFunctionEnv_cells hk (kindsX hkind _) fun env' he s' x => ?_
  subst he
  refine ⟨(T.nolimit.keeps S.sub).keeps x.toInCall.keep, codeAny_func ?_⟩
  obtain ⟨h₁, tk, rfl, _⟩ := x.done
  have hk₁ : Ext h h₁ := x.toInCall.keep
  obtain ⟨cells, NC, Y⟩ := Cl.news (h₀ := h) (L := h.objs.size) (h := h₁) (cm := bindC (envX qual scope h.objs.size f cdv (cellsFrom (h.objs.size + 1) scope.names [])).kindOf binds fun _ => none) (cs := cellsFrom (h.objs.size + 1) scope.names []) (Nat.le_refl _)
    fun n c hm => ⟨x.cell n c (lookup_of_mem_nodup (cellsFrom_names scope.names 0 (h.objs.size + 1) [] [] rfl ▸ hnd) hm), x.above n c hm⟩
  have offP : ∀ a, h.get? a = none → P.get? a = none := fun a e => by
    cases q : P.get? a with
    | none => rfl
    | some o => have := S.sub _ _ q; rw [e] at this; cases this
  have apart : (cells.map (·.1)).Nodup := by
    have e : ∀ {cs : List (Str × Addr)} {cells : List (Addr × Obj)} {cm : Str → Option Value}, CellsAre cm cs cells → cells.map (·.1) = cs.map (·.2) := by
      intro cs cells cm Y
      induction Y with
      | nil => rfl
      | cons _ _ ih => simp [ih]
    rw [e Y]
    exact List.pairwise_map.mpr x.apart
  have Z : St C P (cells ++ fr) h.objs.size (bindL (envX qual scope h.objs.size f cdv (cellsFrom (h.objs.size + 1) scope.names [])).kindOf binds fun _ => none) h₁ := by
    refine ⟨⟨S.base, S.sub.trans hk₁, fun p hp => ?_, fun p hp => ?_, ?_⟩, x.toInCall.ns, offP _ (none_size h), fun q => ?_⟩
    · rcases List.mem_append.mp hp with hp | hp
      · exact (NC p hp).1
      · exact hk₁ _ _ (S.own p hp)
    · rcases List.mem_append.mp hp with hp | hp
      · exact offP _ (NC p hp).2.2
      · exact S.off p hp
    · rw [List.map_append, List.nodup_append]
      refine ⟨apart, S.nd, fun a ha b hb e => ?_⟩
      obtain ⟨p, hp, rfl⟩ := List.mem_map.mp ha
      obtain ⟨p', hp', e'⟩ := List.mem_map.mp hb
      have z := S.own p' hp'
      rw [e', ← e, (NC p hp).2.2] at z; cases z
    · rw [List.map_append, List.mem_append] at q
      rcases q with q | q
      · obtain ⟨p, hp, e⟩ := List.mem_map.mp q
        exact (NC p hp).2.1 e
      · obtain ⟨p, hp, e⟩ := List.mem_map.mp q
        have := S.own p hp
        rw [e, none_size] at this; cases this
  exact wpAny_mono ((q _ _ cells Z hk₁ Y).self.use (Q' := fun fl s' => Q' (.ok (.ret (match fl with | .ret v => v | _ => .none))) s') (E := fun _ _ => False) fun fl h' _ z => by cases fl <;> exact g _ h' _ z) (fun _ _ z => z) fun _ _ z => z.elim
end

/-! ## the library's own frames and ledgers, out of ours -/
def objsOf (P : Heap) : Own := (List.range P.objs.size).filterMap fun a => (P.get? a).map fun o => (a, o)
theorem mem_objsOf {P : Heap} {a : Addr} {o : Obj} : (a, o) ∈ objsOf P ↔ P.get? a = some o := by
  unfold objsOf
  rw [List.mem_filterMap]
  constructor
  · rintro ⟨b, _, e⟩
    obtain ⟨o', ho, e'⟩ := Option.map_eq_some_iff.mp e
    cases e'; exact ho
  · intro e
    exact ⟨a, List.mem_range.mpr (Heap.lt_size e), by rw [e]; rfl⟩
theorem get_empty (a : Addr) : ({} : Heap).get? a = none := by simp [Heap.get?]

theorem split_at {α : Type} : ∀ {l : List α} {i : Nat} {x : α}, l[i]? = some x → ∃ pre post, l = pre ++ x :: post ∧ ∀ y, l.set i y = pre ++ y :: post
  | [], _, _, e => by simp at e
  | z :: r, 0, x, e => by cases e; exact ⟨[], r, rfl, fun _ => rfl⟩
  | z :: r, i + 1, x, e => by
    obtain ⟨pre, post, e1, e2⟩ := split_at (l := r) (i := i) (x := x) (by simpa using e)
    exact ⟨z :: pre, post, by rw [e1]; rfl, fun y => by rw [List.set_cons_succ, e2]; rfl⟩
section
variable {C : Cx} {P : Heap} {fr fr' : Own} {L : Addr} {m m' : Str → Option Value} {h h' : Heap}
theorem St.fr0 (S : St C P fr L m h) : Fr {} L h m := ⟨S.ns, fun b o e => (by rw [get_empty] at e; cases e), Nat.zero_le _⟩
theorem St.news0 (S : St C P fr L m h) : News {} L h (fr ++ objsOf P) := fun p hp => by
  rcases List.mem_append.mp hp with hp | hp
  · exact ⟨S.sep.own p hp, fun e => S.offF (e ▸ List.mem_map_of_mem hp), get_empty _⟩
  · have hp' := mem_objsOf.mp (show (p.1, p.2) ∈ objsOf P from hp)
    exact ⟨S.sep.sub _ _ hp', fun e => (by rw [e, S.offP] at hp'; cases hp'), get_empty _⟩
theorem St.back (S : St C P fr L m h) (F : Fr {} L h' m') (N : News {} L h' (fr' ++ objsOf P)) (hm : fr'.map (·.1) = fr.map (·.1)) : St C P fr' L m' h' :=
  ⟨⟨S.sep.base, fun b o e => (N _ (List.mem_append_right _ (mem_objsOf.mpr e))).1, fun p hp => (N _ (List.mem_append_left _ hp)).1, fun p hp => by
      have : p.1 ∈ fr.map (·.1) := hm ▸ List.mem_map_of_mem hp
      obtain ⟨q, hq, e⟩ := List.mem_map.mp this
      rw [← e]; exact S.sep.off q hq, hm ▸ S.sep.nd⟩, F.ns, S.offP, hm ▸ S.offF⟩
theorem St.back0 (S : St C P fr L m h) (F : Fr {} L h' m') (N : News {} L h' (fr ++ objsOf P)) : St C P fr L m' h' := S.back F N rfl
theorem St.back1 {a : Addr} {o : Obj} (S : St C P fr L m h) (F : Fr {} L h' m') (N : News {} L h' ((a, o) :: (fr ++ objsOf P))) (hn : h.get? a = none) : St C P ((a, o) :: fr) L m' h' := by
  have Z := S.back0 F fun p hp => N p (.tail _ hp)
  have A := N _ (.head _)
  refine ⟨⟨Z.sep.base, Z.sep.sub, fun p hp => ?_, fun p hp => ?_, List.nodup_cons.mpr ⟨fun q => ?_, Z.sep.nd⟩⟩, Z.ns, Z.offP, fun q => ?_⟩
  · rcases List.mem_cons.mp hp with rfl | hp
    · exact A.1
    · exact Z.sep.own p hp
  · rcases List.mem_cons.mp hp with rfl | hp
    · cases q : P.get? a with
      | none => rfl
      | some o' => have := S.sep.sub _ _ q; rw [hn] at this; cases this
    · exact Z.sep.off p hp
  · obtain ⟨p, hp, e⟩ := List.mem_map.mp q
    have := S.sep.own p hp
    rw [e, hn] at this; cases this
  · rcases List.mem_cons.mp q with q | q
    · exact A.2.1 q.symm
    · exact Z.offF q
theorem St.backN {a : Addr} {o : Obj} (S : St C P fr L m h) (F : Fr {} L h' m') (N : News {} L h' ((a, o) :: (fr ++ objsOf P))) (hl : ∀ q ∈ fr ++ objsOf P, q.1 < a) : St C P ((a, o) :: fr) L m' h' := by
  have Z := S.back0 F fun p hp => N p (.tail _ hp)
  have A := N _ (.head _)
  refine ⟨⟨Z.sep.base, Z.sep.sub, fun p hp => ?_, fun p hp => ?_, List.nodup_cons.mpr ⟨fun q => ?_, Z.sep.nd⟩⟩, Z.ns, Z.offP, fun q => ?_⟩
  · rcases List.mem_cons.mp hp with rfl | hp
    · exact A.1
    · exact Z.sep.own p hp
  · rcases List.mem_cons.mp hp with rfl | hp
    · cases q : P.get? a with
      | none => rfl
      | some o' => exact absurd (hl _ (List.mem_append_right _ (mem_objsOf.mpr q))) (Nat.lt_irrefl _)
    · exact Z.sep.off p hp
  · obtain ⟨p, hp, e⟩ := List.mem_map.mp q
    have := hl p (List.mem_append_left _ hp)
    rw [e] at this; exact Nat.lt_irrefl _ this
  · rcases List.mem_cons.mp q with q | q
    · exact A.2.1 q.symm
    · exact Z.offF q
theorem get_ge {h : Heap} {a : Addr} (e : h.objs.size ≤ a) : h.get? a = none := by
  cases q : h.get? a with
  | none => rfl
  | some o => exact absurd (Heap.lt_size q) (Nat.not_lt.mpr e)

/-- freezing what stands first -/
theorem St.freeze {own : Own} (S : St C P (own ++ fr) L m h) : ∃ P', Ext P P' ∧ St C P' fr L m h ∧ ∀ p ∈ own, P'.get? p.1 = some p.2 := by
  obtain ⟨oL, S', back⟩ := S.toSep
  have S2 : Sep C P (own ++ (L, oL) :: fr) h := S'.perm (List.perm_middle.symm)
  obtain ⟨P', e, S3, ho, _⟩ := S2.freeze
  exact ⟨P', e, back _ _ _ S3, ho⟩
theorem St.freeze1 {a : Addr} {o : Obj} (S : St C P ((a, o) :: fr) L m h) : ∃ P', Ext P P' ∧ St C P' fr L m h ∧ P'.get? a = some o := by
  obtain ⟨P', e, S', x⟩ := S.freeze (own := [(a, o)])
  exact ⟨P', e, S', x _ (.head _)⟩
/-- a call by its contract -/
theorem St.call {A : Around} {f : Value} {as : List Value} {Q : Value → Heap → Prop} {post : Value → Heap → Prop} (S : St C P fr L m h)
    (con : ∀ fr', Sep C P fr' h → W C A (PySem.call f as) (fun v h' => ∃ P', Ext P P' ∧ Sep C P' fr' h' ∧ post v P') h)
    (q : ∀ v P' h', Ext P P' → St C P' fr L m h' → post v P' → Q v h') : W C A (PySem.call f as) Q h := by
  obtain ⟨oL, S', back⟩ := S.toSep
  exact (con _ S').mono fun v h' ⟨P', e, S2, hp⟩ => q v P' h' e (back _ _ _ S2) hp
/-- .. that reads alone -/
theorem St.callR {A : Around} {f : Value} {as : List Value} {Q : Value → Heap → Prop} {post : Value → Prop} (S : St C P fr L m h)
    (con : ∀ fr', Sep C P fr' h → W C A (PySem.call f as) (fun v h' => Sep C P fr' h' ∧ post v) h)
    (q : ∀ v h', St C P fr L m h' → post v → Q v h') : W C A (PySem.call f as) Q h := by
  obtain ⟨oL, S', back⟩ := S.toSep
  exact (con _ S').mono fun v h' ⟨S2, hp⟩ => q v h' (back _ _ _ S2) hp
/-- .. that hands out owned things -/
theorem St.callO {A : Around} {f : Value} {as : List Value} {Q : Value → Heap → Prop} {post : Value → Own → Heap → Prop} (S : St C P fr L m h)
    (con : ∀ fr', Sep C P fr' h → W C A (PySem.call f as) (fun v h' => ∃ P' own, Ext P P' ∧ Sep C P' (own ++ fr') h' ∧ post v own P') h)
    (q : ∀ v P' own h', Ext P P' → St C P' (own ++ fr) L m h' → post v own P' → Q v h') : W C A (PySem.call f as) Q h := by
  obtain ⟨oL, S', back⟩ := S.toSep
  exact (con _ S').mono fun v h' ⟨P', own, e, S2, hp⟩ => q v P' own h' e (back _ _ _ (S2.perm List.perm_middle)) hp
/-- .. that changes one owned thing -/
theorem St.callM {A : Around} {f : Value} {as : List Value} {Q : Value → Heap → Prop} {a : Addr} {o : Obj} {i : Nat} {post : Value → Obj → Heap → Prop} (S : St C P fr L m h) (hi : fr[i]? = some (a, o))
    (con : ∀ fr', Sep C P ((a, o) :: fr') h → W C A (PySem.call f as) (fun v h' => ∃ P' o', Ext P P' ∧ Sep C P' ((a, o') :: fr') h' ∧ post v o' P') h)
    (q : ∀ v P' o' h', Ext P P' → St C P' (fr.set i (a, o')) L m h' → post v o' P' → Q v h') : W C A (PySem.call f as) Q h := by
  obtain ⟨oL, S', back⟩ := S.toSep
  obtain ⟨pre, post', e0, e1⟩ := split_at hi
  have k0 : ((L, oL) :: fr).Perm ((a, o) :: (L, oL) :: (pre ++ post')) := by
    rw [e0]; exact (List.perm_middle.cons _).trans (List.Perm.swap ..)
  refine (con ((L, oL) :: (pre ++ post')) (S'.perm k0)).mono fun v h' ⟨P', o', e, S2, hp⟩ => q v P' o' h' e (back _ _ _ (S2.perm ?_)) hp
  rw [e1]
  exact (List.Perm.swap ..).trans (List.perm_middle.symm.cons _)
end

/-! ## lists -/
section
variable {C : Cx} {A : Around} {P : Heap} {fr : Own} {L : Addr} {m : Str → Option Value} {h : Heap} {env : Env} {pos : Pos} {Q : Value → Heap → Prop}
theorem isList_of {l : Addr} {vs : List Value} {n : Nat} (e : h.get? l = some (LO vs n)) : h.IsList l vs.toArray := ⟨_, e, rfl, n, rfl⟩
theorem isTup_of {l : Addr} {vs : List Value} {n : Nat} (e : h.get? l = some (TO vs n)) : IsTup h l vs.toArray := ⟨_, e, rfl, n, rfl⟩
theorem w_len {l : Addr} {vs : List Value} {n : Nat} (e : h.get? l = some (LO vs n)) (hz : vs.length < 2 ^ 63) (q : ∀ t, Q (.int vs.length t) h) : W C A (call (.builtin "len") [.ref l]) Q h :=
  W.of fun _ _ g => PySem.Calls.call_len_list (isList_of e) (by simpa using (by exact_mod_cast hz : (vs.length : Int) < 2 ^ 63)) (by simpa using g _ _ _ (q _))
theorem w_item {value slice : Expr} {l : Addr} {vs : List Value} {n : Nat} {k : Int} {u : Tok} {x : Value} (e : h.get? l = some (LO vs n)) (h0 : 0 ≤ k) (hhi : k < 2 ^ 63) (hx : vs[k.toNat]? = some x) (q : Q x h)
    (hs : subscripted slice false (.ref l) (.int k u) = operate [.ref l, .int k u] (getItem (.ref l) (.int k u)) := by with_unfolding_all rfl) : W C A (subscriptTail value slice (.ref l) (.int k u)) Q h :=
  W.of fun _ _ g => tail_any (isList_of e).typeIs slot_list_getitem.lookup (wpAny_getItem_list (isList_of e) h0 hhi (by simpa using hx) (g _ _ _ q)) hs
theorem w_titem {value slice : Expr} {l : Addr} {vs : List Value} {n : Nat} {k : Int} {u : Tok} {x : Value} {j : Nat} (e : h.get? l = some (TO vs n)) (hlo : -(2 ^ 63) ≤ k) (hhi : k < 2 ^ 63) (hj : seqIndex? k vs.length = some j) (hx : vs[j]? = some x) (q : Q x h)
    (hs : subscripted slice false (.ref l) (.int k u) = operate [.ref l, .int k u] (getItem (.ref l) (.int k u)) := by with_unfolding_all rfl) : W C A (subscriptTail value slice (.ref l) (.int k u)) Q h :=
  W.of fun _ _ g => item_tupleT (isTup_of e) hlo hhi hj hx (g _ _ _ q) hs
theorem w_m_append {l : Addr} {vs : List Value} {n : Nat} {pl : Sem Bool} {Q : Value × List Value → Heap → Prop} (e : h.get? l = some (LO vs n)) (q : Q (.builtin "list.append", [.ref l]) h) : W C A (getMethod (.ref l) "append" pl) Q h :=
  W.of fun _ _ g => PySem.Calls.getMethod_list_append e rfl rfl (g _ _ _ q)
theorem w_append {l : Addr} {vs : List Value} {n i : Nat} {x : Value} (S : St C P fr L m h) (hi : fr[i]? = some (l, LO vs n)) (hz : vs.length ≤ sizeLine)
    (q : ∀ h' n', St C P (fr.set i (l, LO (vs ++ [x]) n')) L m h' → Q .none h') : W C A (call (.builtin "list.append") [.ref l, x]) Q h := W.of fun k Q' g => by
  have e := S.sep.own _ (List.mem_of_getElem? hi)
  have hl : h.IsList l vs.toArray := isList_of e
  refine wpAny_call_entry slot_list_append hl.typeIs entry_list_append ?_ (args_list_append _ _)
  show wpAny _ _ (updateSeq l (·.push x) >>= fun _ => ret .none) _ _ _
  have key : Obj.mapSeq (·.push x) (LO vs n) = LO (vs ++ [x]) (n + 1) := by
    show Obj.mk _ _ (Data.seq (vs.toArray.push x) (if (vs.toArray.push x).size == vs.toArray.size then n else n + 1)) _ = _
    have c : ((vs.toArray.push x).size == vs.toArray.size) = false := by simp
    rw [c]; simp
  refine wpAny_bind (wpAny_updateSeq e rfl (wpAny_pure ⟨.none, rfl, g _ _ _ (q _ (n + 1) ?_)⟩) (by simpa using hz) (by simp; (first | lia | omega)))
  have := S.upd (o := LO vs n) hi (Obj.mapSeq (·.push x)) (by rw [key]; rfl)
  rw [key] at this
  exact this
theorem w_listcopy {l : Addr} {vs : List Value} {n : Nat} (S : St C P fr L m h) (e : h.get? l = some (LO vs n)) (hz : vs.length ≤ sizeLine) (q : ∀ a n' h', St C P ((a, LO vs n') :: fr) L m h' → Q (.ref a) h') : W C A (call (.type "list") [.ref l]) Q h :=
  W.of fun _ _ g => list_copyK S.fr0 S.news0 (isList_of e) (fun D c h' F N hl => g _ _ _ (q D c h' (S.backN F N hl))) (by simpa using hz)
end

theorem fill : (PySem.Challenge.rw_ov0066_01, hd.heap_39) = (PySem.Challenge.rw_ov0066_01, hd.heap_39) := by
  k_fill
  rfl
section
variable (P : Params)
theorem v_get (n : Str) : plainGet (hd.heap_39 P) 164 n = true := by kernel_rfl
theorem v_dict : hasDictIn (hd.heap_39 P) 164 = true := by k_is
theorem v_kind : findIn (hd.heap_39 P) (.ref 164) "kind" = some none := by k_is
theorem v_items : findIn (hd.heap_39 P) (.ref 164) "items" = some none := by k_is
theorem v_attrs : findIn (hd.heap_39 P) (.ref 164) "attrs" = some none := by k_is
theorem v_shared : findIn (hd.heap_39 P) (.ref 164) "shared" = some none := by k_is
theorem v_loose : findIn (hd.heap_39 P) (.ref 164) "loose" = some none := by k_is
theorem v_setattr : findIn (hd.heap_39 P) (.ref 164) "__setattr__" = some (some (.builtin "object.__setattr__")) := by k_is
theorem v_over : plainOver (hd.heap_39 P) 164 = true := by k_is
theorem v_make : makesIn (hd.heap_39 P) 164 = true := by k_is
theorem v_init : findIn (hd.heap_39 P) (.ref 164) "__init__" = some (some (.ref 154)) := by k_is
theorem v_initfn : typeIn (hd.heap_39 P) (.ref 154) = some (.type "function") := by k_is
theorem v_t1 : takerIn (hd.heap_39 P) 164 "kind" = some none := by k_is
theorem v_t2 : takerIn (hd.heap_39 P) 164 "items" = some none := by k_is
theorem v_t3 : takerIn (hd.heap_39 P) 164 "attrs" = some none := by k_is
theorem v_t4 : takerIn (hd.heap_39 P) 164 "shared" = some none := by k_is
theorem v_t5 : takerIn (hd.heap_39 P) 164 "loose" = some none := by k_is
theorem v_isin : isIn (hd.heap_39 P) (.ref 164) 164 = true := by k_is
end

abbrev V : Addr := 164
abbrev kh (C : Cx) (n : Str) : Int := PyData.keyHash C.w.params n
abbrev IO (dx : Addr) : Obj := instObj 164 dx
/-- an object's own dict, whole -/
abbrev VD (C : Cx) (t1 t2 t3 t4 t5 : Tok) (k i a s l : Value) : Obj :=
  dictOf [⟨kh C "kind", .str "kind" t1, k⟩, ⟨kh C "items", .str "items" t2, i⟩, ⟨kh C "attrs", .str "attrs" t3, a⟩, ⟨kh C "shared", .str "shared" t4, s⟩, ⟨kh C "loose", .str "loose" t5, l⟩] 5
section
variable {C : Cx} {A : Around} {P : Heap} {fr : Own} {L : Addr} {m : Str → Option Value} {h : Heap} {Q : Value → Heap → Prop} {x dx : Addr} {es : List DictEntry} {n : Nat} {name : Str} {v : Value}
theorem inst_of {od : Obj} (hx : h.get? x = some (IO dx)) (hd : h.get? dx = some od) : PySem.W.InstAt h x (IO dx) 164 (some od) := ⟨hx, rfl, rfl, hd⟩
theorem w_get {e : Bool} (X : (Mine.hd.heap_39 C.w.params).In h) (hx : h.get? x = some (IO dx)) (hd : h.get? dx = some (dictOf es n)) (ha : findIn (Mine.hd.heap_39 C.w.params) (.ref 164) name = some none)
    (hl : getL name es = some (some v)) (hv : handedIn v = true) (q : Q v h) : W C A (getAttr (.ref x) name e) Q h :=
  W.of fun _ _ g => get_value X (inst_of hx hd) (plainGet_of (v_get C.w.params name)).1 (findObj_own (v_dict C.w.params) ha rfl hl) hv (g _ _ _ q)
section
variable {t1 t2 t3 t4 t5 : Tok} {k i a s l : Value} {e : Bool}
theorem w_kind (X : (Mine.hd.heap_39 C.w.params).In h) (hx : h.get? x = some (IO dx)) (hd : h.get? dx = some (VD C t1 t2 t3 t4 t5 k i a s l)) (hv : handedIn k = true) (q : Q k h) : W C A (getAttr (.ref x) "kind" e) Q h :=
  w_get X hx hd (v_kind _) (by with_unfolding_all rfl) hv q
theorem w_items (X : (Mine.hd.heap_39 C.w.params).In h) (hx : h.get? x = some (IO dx)) (hd : h.get? dx = some (VD C t1 t2 t3 t4 t5 k i a s l)) (hv : handedIn i = true) (q : Q i h) : W C A (getAttr (.ref x) "items" e) Q h :=
  w_get X hx hd (v_items _) (by with_unfolding_all rfl) hv q
theorem w_attrs (X : (Mine.hd.heap_39 C.w.params).In h) (hx : h.get? x = some (IO dx)) (hd : h.get? dx = some (VD C t1 t2 t3 t4 t5 k i a s l)) (hv : handedIn a = true) (q : Q a h) : W C A (getAttr (.ref x) "attrs" e) Q h :=
  w_get X hx hd (v_attrs _) (by with_unfolding_all rfl) hv q
end
theorem St.In (S : St C P fr L m h) : (Mine.hd.heap_39 C.w.params).In h := S.sep.base.k.keeps S.ext

theorem w_set {Qu : Unit → Heap → Prop} {es' : Tok → List DictEntry} {n' i : Nat} (S : St C P fr L m h) (hx : h.get? x = some (IO dx)) (hi : fr[i]? = some (dx, dictOf es n))
    (ht : takerIn (Mine.hd.heap_39 C.w.params) 164 name = some none) (hl : (getL name es).isSome = true) (e : ∀ tk, putL name (kh C name) (.str name tk) v es = es' tk) (en : putN name es n = n') (hz : ∀ tk, (es' tk).length ≤ 1000)
    (q : ∀ h' tk, St C P (fr.set i (dx, dictOf (es' tk) n')) L m h' → Qu () h') : W C A (setAttr (.ref x) name v) Qu h := W.of fun k Q' g => by
  have hd := S.sep.own _ (List.mem_of_getElem? hi)
  have I := inst_of hx hd
  obtain ⟨pre, post, e0, e1⟩ := split_at hi
  have N := S.news0
  have F := S.fr0
  have nd := S.sep.nd
  rw [e0, List.map_append, List.nodup_append, List.map_cons, List.nodup_cons] at nd
  have h1 : ∀ p ∈ pre, p.1 ≠ dx := fun p hp => nd.2.2 p.1 (List.mem_map_of_mem hp) dx (.head _)
  have h2 : ∀ p ∈ post ++ objsOf P, p.1 ≠ dx := fun p hp q => by
    rcases List.mem_append.mp hp with hp | hp
    · exact nd.2.1.1 (List.mem_map.mpr ⟨p, hp, q⟩)
    · have := mem_objsOf.mp (show (p.1, p.2) ∈ objsOf P from hp)
      rw [q, S.sep.off (dx, _) (List.mem_of_getElem? hi)] at this; cases this
  refine set_plain S.In I (v_setattr _) ?_
  refine osa_dict (od' := dictOf (es' (k + 1)) n') (es := es' (k + 1)) (n := n') (m := m) (L := L) (h₀ := {}) (pre := pre) (post := post ++ objsOf P) F (by rw [e0] at N; simpa using N) S.In I rfl (v_over _) ht (v_dict _) hl h1 h2 ?_ rfl (hz _) ?_
  · show Obj.putName name (kh C name) (.str name (k + 1)) v (dictOf es n) = _
    rw [putName_dict, e, en]
  · intro h' F' N'
    refine g _ _ _ (q h' (k + 1) (S.back F' ?_ (map_set_fst hi)))
    rw [e1]; simpa using N'
end

/-! ## iterators -/
inductive Tgt : Expr → Prop
  | name (x : Str) (p : Pos) : Tgt (.Name x p)
  | tup (es : List Expr) (k : Nat) (p : Pos) : Tgt (.Tuple es k p)
structure Itr (C : Cx) (I : Addr) (n : Nat) (val : Nat → Value → Prop) (Ok : Nat → Obj → Prop) (need : Heap → Prop) : Prop where
  item : ∀ A, A.handled = none → ∀ i h o, i < n → h.get? I = some o → Ok i o → need h →
    W C A (pyNext (.ref I)) (fun r h' => ∃ v o', r = some v ∧ val i v ∧ Heap.SameBut I h h' ∧ h'.get? I = some o' ∧ Ok (i + 1) o') h
  done : ∀ A, A.handled = none → ∀ h o, h.get? I = some o → Ok n o → need h → W C A (pyNext (.ref I)) (fun r h' => r = none ∧ Heap.ExtBut I h h') h
  self : ∀ A i h o, h.get? I = some o → Ok i o → W C A (pyIter (.ref I)) (fun v h' => v = .ref I ∧ h' = h) h
  own : ∀ A t v i h o, Tgt t → h.get? I = some o → Ok i o → W C A (letOwnedTupleGo t (.ref I) v) (fun _ h' => h' = h) h

def LiOk (l : Addr) (i : Nat) (o : Obj) : Prop := o.cls = .type "list_iterator" ∧ o.data = .fields #[.ref l, .int i 0]
theorem itr_list (C : Cx) (I l : Addr) (vs : List Value) : Itr C I vs.length (fun i v => vs[i]? = some v) (LiOk l) (fun h => h.IsList l vs.toArray) where
  item := fun A hh i h o hi ho ok hn => W.of fun _ _ g => by
    refine wpAny_pyNext_list_item (x := vs[i]) ⟨o, ho, ok⟩ hn (by simp [hi]) fun h' hit hs => ?_
    obtain ⟨o', ho', ok'⟩ := hit
    exact g _ _ _ ⟨_, o', rfl, by simp [hi], hs, ho', ok'⟩
  done := fun A hh h o ho ok hn => W.of fun _ _ g => wpAny_pyNext_list_end hh ⟨o, ho, ok⟩ hn (by simp) fun h' he => g _ _ _ ⟨rfl, he⟩
  self := fun A i h o ho ok => W.of fun _ _ g => wpAny_pyIter_listiter ⟨o, ho, ok⟩ (g _ _ _ ⟨rfl, rfl⟩)
  own := fun A t v i h o ht ho ok => W.of fun _ _ g => by
    cases ht with
    | name x p => exact wpAny_pure (g _ _ _ rfl)
    | tup es k p =>
      cases v <;> first
        | exact wpAny_pure (g _ _ _ rfl)
        | exact wpAny_letOwnedTupleGo_listiter ⟨o, ho, ok⟩ (g _ _ _ rfl)
def RaOk (a : Int) (n : Nat) (i : Nat) (o : Obj) : Prop := o = { cls := .type "range_iterator", dict := none, data := .fields #[rawInt (a + i), rawInt (n - i), rawInt 1], slots := #[] }
theorem itr_range (C : Cx) (I : Addr) (a : Int) (n : Nat) : Itr C I n (fun i v => ∃ t, v = .int (a + i) t) (RaOk a n) (fun _ => True) where
  item := fun A hh i h o hi ho ok _ => W.of fun _ _ g => by
    subst ok
    refine wpAny_pyNext_range_item (x := a + i) (left := n - i) (step := 1) ho (by (first | lia | omega)) fun h' hit hs => ?_
    refine g _ _ _ ⟨_, _, rfl, ⟨_, rfl⟩, hs, hit, ?_⟩
    show _ = _
    rw [show a + (i : Int) + 1 = a + ((i + 1 : Nat) : Int) by (first | lia | omega), show (n : Int) - i - 1 = n - ((i + 1 : Nat) : Int) by (first | lia | omega)]
  done := fun A hh h o ho ok _ => W.of fun _ _ g => by
    subst ok
    exact wpAny_pyNext_range_end (x := a + n) (left := n - n) (step := 1) hh ho (by (first | lia | omega)) fun h' he => g _ _ _ ⟨rfl, he⟩
  self := fun A i h o ho ok => W.of fun _ _ g => by
    subst ok
    exact wpAny_pyIter_rangeiter ho (g _ _ _ ⟨rfl, rfl⟩)
  own := fun A t v i h o ht ho ok => W.of fun _ _ g => by
    subst ok
    cases ht with
    | name x p => exact wpAny_pure (g _ _ _ rfl)
    | tup es k p =>
      unfold letOwnedTupleGo
      cases v <;> first
        | exact wpAny_pure (g _ _ _ rfl)
        | (refine wpAny_bind (wpAny_load ho ?_); dsimp only; exact wpAny_pure (g _ _ _ rfl))

section
variable {C : Cx} {A : Around} {P : Heap} {fr : Own} {L : Addr} {m : Str → Option Value} {h h' : Heap} {env : Env} {pos : Pos} {Q : Value → Heap → Prop} {Qf : Flow → Heap → Prop} {I : Addr} {o : Obj} {n : Nat} {val : Nat → Value → Prop} {Ok : Nat → Obj → Prop} {need : Heap → Prop}
theorem w_iter_list {l : Addr} {vs : List Value} {n : Nat} (S : St C P fr L m h) (e : h.get? l = some (LO vs n))
    (q : ∀ I o h', LiOk l 0 o → Itr C I vs.length (fun i v => vs[i]? = some v) (LiOk l) (fun h => h.IsList l vs.toArray) → St C P ((I, o) :: fr) L m h' → Ext h h' → Q (.ref I) h') : W C A (pyIter (.ref l)) Q h :=
  W.of fun _ _ g => wpAny_pyIter_list (isList_of e) (g _ _ _ (q _ _ _ ⟨rfl, rfl⟩ (itr_list C _ l vs) (S.push _) (ext_push _ _)))
theorem w_iter_range {r : Addr} {b : Int} {t u v : Tok} {k : Nat} (S : St C P fr L m h) (e : h.get? r = some { cls := .type "range", data := .fields #[.int 0 t, .int b u, .int 1 v] }) (hb : b = k) (hk : k < 2 ^ 62)
    (q : ∀ I o h', RaOk 0 k 0 o → Itr C I k (fun i v => ∃ t, v = .int (0 + i) t) (RaOk 0 k) (fun _ => True) → St C P ((I, o) :: fr) L m h' → Ext h h' → Q (.ref I) h') : W C A (pyIter (.ref r)) Q h :=
  W.of fun _ _ g => by
    subst hb
    have e2 : Builtin.Range.rangeSize 0 (k : Int) 1 = k := by rw [rangeSize_one]; split <;> (first | lia | omega)
    refine wpAny_pyIter_range (a := 0) (b := k) (c := 1) e (small_one (by (first | lia | omega)) (by (first | lia | omega)) (by (first | lia | omega)) (by (first | lia | omega))) (g _ _ _ (q _ _ _ ?_ (itr_range C _ 0 k) (S.push _) (ext_push _ _)))
    show _ = _
    rw [e2]
    simp
theorem w_range {b : Int} {t : Tok} (S : St C P fr L m h) (q : ∀ a t u v h', St C P ((a, { cls := .type "range", data := .fields #[.int 0 t, .int b u, .int 1 v] }) :: fr) L m h' → Q (.ref a) h') : W C A (call (.type "range") [.int b t]) Q h :=
  W.of fun _ _ g => call_range_1 (g _ _ _ (q _ _ _ _ _ (S.push _)))

theorem St.set_last {o' : Obj} (S : St C P (fr ++ [(I, o)]) L m h) (hs : Heap.SameBut I h h') (ho : h'.get? I = some o') : St C P (fr ++ [(I, o')]) L m h' := by
  have := S.set (i := fr.length) (o := o) (o' := o') (by simp) hs ho
  rwa [show (fr ++ [(I, o)]).set fr.length (I, o') = fr ++ [(I, o')] by simp] at this
theorem St.lose (S : St C P ((I, o) :: fr) L m h) (hs : Heap.ExtBut I h h') : St C P fr L m h' := by
  have nI : ∀ p ∈ fr, p.1 ≠ I := fun p hp e => (List.nodup_cons.mp S.sep.nd).1 (List.mem_map.mpr ⟨p, hp, e⟩)
  have lI : L ≠ I := fun e => S.offF (by rw [e]; exact List.mem_cons_self)
  exact ⟨⟨S.sep.base, fun b ob e => hs b ob (fun q => by rw [q, S.sep.off _ (.head _)] at e; cases e) (S.sep.sub b ob e), fun p hp => hs _ _ (nI p hp) (S.sep.own p (.tail _ hp)), fun p hp => S.sep.off p (.tail _ hp), (List.nodup_cons.mp S.sep.nd).2⟩,
    S.ns.extBut hs lI, S.offP, fun q => S.offF (List.mem_cons_of_mem _ q)⟩
theorem St.last (S : St C P ((I, o) :: fr) L m h) : St C P (fr ++ [(I, o)]) L m h := S.perm (List.perm_append_comm (l₁ := [(I, o)]) (l₂ := fr))
theorem St.first (S : St C P (fr ++ [(I, o)]) L m h) : St C P ((I, o) :: fr) L m h := S.perm (by simpa using (List.perm_append_comm (l₁ := fr) (l₂ := [(I, o)])))

/-! ## for -/
def WF (C : Cx) (A : Around) (t : Expr) (it : Value) (body : List Stmt) (env : Env) (Qf : Flow → Heap → Prop) (h : Heap) : Prop :=
  ∀ k, codeAny C.M A (.forLoop t it body [] env) (fun r s' => ∃ f h' k', r = .ok f ∧ s' = C.st h' k' ∧ Qf f h') (C.st h k)
theorem w_for {t iter : Expr} {body : List Stmt} (q : W C A (eval iter env) (fun x h₁ => W C A (pyIter x) (fun it h₂ => WF C A t it body env Qf h₂) h₁) h)
    (hs : ∀ x, foldedSetIterable iter env x = pure x := by intro _; with_unfolding_all rfl) : W C A (exec (.For t iter body [] pos) env) Qf h :=
  W.of fun _ _ g => wpAny_For (q.use fun _ _ _ q => q.use fun _ _ k q => codeAny_mono (q k) fun _ _ ⟨f, h', k', e1, e2, z⟩ => by subst e1; subst e2; exact g _ _ _ z) hs
theorem WF.inv {t : Expr} {body : List Stmt} (it : Itr C I n val Ok need) (S : St C P ((I, o) :: fr) L m h) (ok : Ok 0 o) (hh : A.handled = none) (ht : Tgt t)
    (Inv : Nat → Heap → Own → (Str → Option Value) → Prop) (init : Inv 0 P fr m)
    (hneed : ∀ i P' fr' m' G h', Ext P P' → Inv i P' fr' m' → St C P' (fr' ++ G) L m' h' → need h')
    (turn : ∀ i v P' fr' m' G h', i < n → val i v → Ext P P' → Inv i P' fr' m' → St C P' (fr' ++ G) L m' h' →
      Gn (fun f h2 => (f = .next ∨ f = .cont) ∧ ∃ P'' fr'' m'', Ext P' P'' ∧ Inv (i + 1) P'' fr'' m'' ∧ St C P'' (fr'' ++ G) L m'' h2) fun Qf => W C A (assign t env v) (fun _ h1 => W C A (execs body env) Qf h1) h')
    (fin : ∀ P' fr' m' h', Ext P P' → Inv n P' fr' m' → St C P' fr' L m' h' → Qf .next h') : WF C A t (.ref I) body env Qf h := by
  intro k
  refine codeAny_forLoop_any (fun d s' => ∃ i P' fr' m' o' h' k', s' = C.st h' k' ∧ i ≤ n ∧ d = n + 1 - i ∧ Ext P P' ∧ Inv i P' fr' m' ∧ St C P' (fr' ++ [(I, o')]) L m' h' ∧ Ok i o') ?_ (n + 1)
    ⟨0, P, fr, m, o, h, k, rfl, Nat.zero_le _, rfl, Ext.rfl, init, S.last, ok⟩
  rintro d s' ⟨i, P', fr', m', o', h1, k1, rfl, hi, rfl, e, hI, S1, ok1⟩
  have ho := S1.sep.own _ (List.mem_append_right _ (List.mem_singleton.mpr rfl))
  by_cases hlt : i < n
  · refine (it.item A hh i h1 o' hlt ho ok1 (hneed i P' fr' m' _ h1 e hI S1)).use fun r h2 k2 ⟨v, o2, er, hv, hs, ho2, ok2⟩ => ?_
    subst er
    refine (it.own A t v (i + 1) h2 o2 ht ho2 ok2).use fun _ h3 k3 e3 => ?_
    subst e3
    have S2 := S1.set_last hs ho2
    refine (turn i v P' fr' m' _ h3 hlt hv e hI S2).self.use fun _ h4 k4 z => z.use fun f h5 k5 ⟨hf, P2, fr2, m2, e2, hI2, S3⟩ => ?_
    rcases hf with rfl | rfl <;> exact ⟨n + 1 - (i + 1), by (first | lia | omega), i + 1, P2, fr2, m2, o2, h5, k5, rfl, hlt, rfl, e.trans e2, hI2, S3, ok2⟩
  · have hin : i = n := by (first | lia | omega)
    subst hin
    refine (it.done A hh h1 o' ho ok1 (hneed i P' fr' m' _ h1 e hI S1)).use fun r h2 k2 ⟨er, hx⟩ => ?_
    subst er
    exact wpAny_execs_nil ⟨_, h2, k2, rfl, rfl, fin P' fr' m' h2 e hI (S1.first.lose hx)⟩
theorem w_asg {x : Str} {p : Pos} {v : Value} {Qu : Unit → Heap → Prop} (q : W C A (storeName env x v) Qu h) : W C A (assign (.Name x p) env v) Qu h := W.of fun _ _ g => wpAny_assign_Name (q.use g)

/-! ## comprehensions -/
theorem CellsAre.app {cm : Str → Option Value} {cs cs' : List (Str × Addr)} {c c' : List (Addr × Obj)} (x : CellsAre cm cs c) (y : CellsAre cm cs' c') : CellsAre cm (cs ++ cs') (c ++ c') := by
  induction x with
  | nil => exact y
  | cons hd _ ih => exact .cons hd ih
theorem push_cells (S : St C P fr L m h) : ∀ (names : List (Str × NameKind)) (acc : List (Str × Addr)), ∃ cs own, cellsFrom h.objs.size names acc = cs ++ acc ∧ CellsAre (fun _ => none) cs own ∧ St C P (own ++ fr) L m (pushCells h names) := by
  intro names
  induction names generalizing h fr with
  | nil => intro acc; exact ⟨[], [], rfl, .nil, S⟩
  | cons x r ih =>
    intro acc
    obtain ⟨name, kind⟩ := x
    unfold cellsFrom pushCells
    split
    · obtain ⟨cs, own, e, c, S2⟩ := ih (S.push { cls := .type "cell", data := .cell none }) ((name, h.objs.size) :: acc)
      rw [Heap.size_push] at e
      refine ⟨cs ++ [(name, h.objs.size)], own ++ [(h.objs.size, { cls := .type "cell", data := .cell none })], by rw [e]; simp, CellsAre.app c (.cons rfl .nil), by simpa using S2⟩
    · exact ih S acc

/-- a comprehension's own surroundings -/
abbrev cenvOf (scope : Scope) (env : Env) (Lc : Addr) (cs : List (Str × Addr)) : Env :=
  { scope := relabel scope env, locals := Lc, globals := env.globals, cells := cs, qual := env.qual, func := none, code := env.code, frame := env.frame, builtins := env.builtins }
theorem newCompEnv {M : Model} {A : Around} {E : Value → Shared → Prop} {s : Shared} {scope : Scope} {g : Addr} {cl : List (Str × Addr)} {qual : Str} {Q : Env → Shared → Prop}
    (q : Q { scope, locals := s.heap.objs.size, globals := g, cells := cellsFrom (s.heap.objs.size + 1) scope.names cl, qual, func := none, code := env.code, frame := env.frame, builtins := env.builtins }
      { s with heap := pushCells (s.heap.push { cls := .type "dict", data := .dict #[] }) scope.names }) : wpAny M A (newFunctionEnv scope g cl [] qual none .none (some env)) Q E s := by
  simp only [newFunctionEnv, Option.isSome_some, if_true]
  refine wpAny_bind (wpAny_alloc ?_)
  refine wpAny_bind (wpAny_layCells _ (fun name kind cells => by cases hkc : kind == NameKind.cell <;> simp [hkc]) _ _ _ _ ?_)
  rw [show ({ s with heap := s.heap.push { cls := .type "dict", data := .dict #[] } } : Shared).heap.objs.size = s.heap.objs.size + 1 from Heap.size_push ..]
  rw [List.forIn_nil]
  exact wpAny_bind (wpAny_pure (wpAny_pure q))
theorem compLoop_any {R : Result → Shared → Prop} {s : Shared} {elt target iter : Expr} {scope : Scope} {it acc : Value} (J : Nat → Shared → Prop)
    (turn : ∀ n s, J n s → wpAny C.M A (pyNext it) (fun r s₁ => match r with
      | none => R (.ok .next) s₁
      | some v => wpAny C.M A (letOwnedTupleGo target it v) (fun _ s₁' => wpAny C.M A (assign target env v) (fun _ s₂ => wpAny C.M A (eval elt env) (fun x s₃ =>
          wpAny C.M A (call (.builtin "list.append") [acc, x]) (fun _ s₄ => ∃ m, m < n ∧ J m s₄) (fun _ _ => False) s₃) (fun _ _ => False) s₂) (fun _ _ => False) s₁') (fun _ _ => False) s₁) (fun _ _ => False) s)
    (n : Nat) (h : J n s) : codeAny C.M A (.compLoop (.ListComp elt [⟨target, iter, [], 0⟩] scope pos) 0 it acc env) R s := by
  refine codeAny_loop rfl J (fun n s hI => ?_) n h
  show wpAny _ _ ((compTurn (.ListComp elt [⟨target, iter, [], 0⟩] scope pos) 0 it acc env).onRaise (fun x => do noteFrame x env; theTreesLotGoes x)) _ _ s
  refine wpAny_onRaise ?_
  rw [compTurn_list1]
  refine wpAny_bind (wpAny_standAt (wpAny_bind (wpAny_mono (turn n s hI) (fun r s₁ h₁ => ?_) fun _ _ h' => h'.elim)))
  cases r with
  | none => exact wpAny_pure h₁
  | some v =>
    refine wpAny_bind (wpAny_mono h₁ (fun _ s₁' h₁' => ?_) fun _ _ h' => h'.elim)
    exact wpAny_bind (wpAny_mono h₁' (fun _ s₂ h₂ => wpAny_bind (wpAny_bind (wpAny_mono h₂ (fun x s₃ h₃ => wpAny_bind (wpAny_mono h₃
      (fun _ s₄ h₄ => wpAny_pure (wpAny_pure ⟨rfl, h₄⟩)) fun _ _ h' => h'.elim)) fun _ _ h' => h'.elim))) fun _ _ h' => h'.elim)

/-- what a comprehension's turns must show, once its iterator and its frame stand -/
structure CompOb (C : Cx) (A : Around) (P : Heap) (fr : Own) (n : Nat) (val : Nat → Value → Prop) (need : Heap → Prop) (target elt : Expr) (cenv : Env) (Fin : Heap → Own → List Value → Prop) : Prop where
  ob : ∃ Inv : Nat → Heap → Own → List Value → Prop, Inv 0 P fr [] ∧
    (∀ i P' fr' ys G mc h', Ext P P' → Inv i P' fr' ys → St C P' (fr' ++ G) cenv.locals mc h' → need h') ∧
    (∀ i v P' fr' ys G mc h', i < n → val i v → Ext P P' → Inv i P' fr' ys → ys.length = i → St C P' (fr' ++ G) cenv.locals mc h' →
      Gn (fun y h2 => ∃ P'' fr'' mc', Ext P' P'' ∧ Inv (i + 1) P'' fr'' (ys ++ [y]) ∧ St C P'' (fr'' ++ G) cenv.locals mc' h2) fun Q9 => W C A (assign target cenv v) (fun _ h1 => W C A (eval elt cenv) Q9 h1) h') ∧
    (∀ P' fr' ys, Ext P P' → Inv n P' fr' ys → ys.length = n → Fin P' fr' ys)

theorem St.swap {Lc : Addr} {oC : Obj} {mc : Str → Option Value} (S : St C P ((Lc, oC) :: fr) L m h) (hn : h.Ns Lc mc) :
    ∃ oL, St C P ((L, oL) :: fr) Lc mc h ∧ ∀ P' fr' mc' h', St C P' ((L, oL) :: fr') Lc mc' h' → ∃ oC', St C P' ((Lc, oC') :: fr') L m h' := by
  obtain ⟨oL, S', back⟩ := S.toSep
  have S2 := S'.perm (List.Perm.swap ..)
  have nd := List.nodup_cons.mp S2.nd
  refine ⟨oL, ⟨S2.drop, hn, S2.off _ (.head _), nd.1⟩, fun P' fr' mc' h' Z => ?_⟩
  obtain ⟨oC', Z', _⟩ := Z.toSep
  exact ⟨oC', back _ _ _ (Z'.perm (List.Perm.swap ..))⟩

theorem comp_core {elt target iter : Expr} {scope : Scope} {cl : List (Str × Addr)} {RR : Value → Addr → Result → Shared → Prop} {E : Value → Shared → Prop} {k : Nat} (it : Itr C I n val Ok need) (S : St C P ((I, o) :: fr) L m h) (ok : Ok 0 o) (hh : A.handled = none) (ht : Tgt target)
    (hz : n ≤ sizeLine)
    (ob : ∀ Lc cs own, CellsAre (fun _ => none) cs own → cs ++ cl = cellsFrom (Lc + 1) scope.names cl → ∃ Fin, CompOb C A P (own ++ fr) n val need target elt (cenvOf scope env Lc (cs ++ cl)) Fin ∧
      ∀ P' fr' ys D n' oC h' k', Ext P P' → Fin P' fr' ys → St C P' ((Lc, oC) :: (D, LO ys n') :: fr') L m h' → (∃ mc, h'.Ns Lc mc) → RR (.ref D) Lc (.ok .next) (C.st h' k')) :
    wpAny C.M A (newList []) (fun acc s₃ => wpAny C.M A (newFunctionEnv scope env.globals cl [] env.qual none .none (some env)) (fun cenv s₄ =>
      codeAny C.M A (.compStart (.ListComp elt [⟨target, iter, [], 0⟩] scope pos) 0 (.ref I) acc { cenv with scope := relabel scope env }) (RR acc cenv.locals) s₄) E s₃) E (C.st h k) := by
  refine wpAny_newObj_type (newCompEnv ?_)
  dsimp only
  have S1 := S.push (LO [] 0)
  have S2 := S1.push ({ cls := .type "dict", data := .dict #[] } : Obj)
  have hLc0 := Heap.Ns.new (h.push (LO [] 0)) (.type "dict")
  obtain ⟨cs, own, ec, hcs, S3⟩ := push_cells S2 scope.names cl
  rw [Heap.size_push] at ec
  have hLc : (pushCells ((h.push (LO [] 0)).push ({ cls := .type "dict", data := .dict #[] } : Obj)) scope.names).Ns (h.push (LO [] 0)).objs.size (fun _ => none) := hLc0.keeps (pushCells_keeps _ _)
  generalize hD : h.objs.size = D at *
  generalize hC : (h.push (LO [] 0)).objs.size = Lc at *
  generalize hH : pushCells ((h.push (LO [] 0)).push ({ cls := .type "dict", data := .dict #[] } : Obj)) scope.names = H at *
  obtain ⟨Fin, ⟨Inv, init, hneed, turn, fin⟩, hR⟩ := ob Lc cs own hcs ec.symm
  have S4 : St C P ((Lc, ({ cls := .type "dict", data := .dict #[] } : Obj)) :: (own ++ fr ++ [(D, LO [] 0), (I, o)])) L m H := by
    refine S3.perm ?_
    refine (List.perm_middle).trans (List.Perm.cons _ ?_)
    have e1 : ((D, LO [] 0) :: (I, o) :: fr : Own).Perm (fr ++ [(D, LO [] 0), (I, o)]) := by
      simpa using (List.perm_append_comm (l₁ := [(D, LO [] 0), (I, o)]) (l₂ := fr))
    rw [List.append_assoc]
    exact e1.append_left own
  obtain ⟨oL, S5, back⟩ := S4.swap hLc
  have S6 : St C P (own ++ fr ++ [(D, LO [] 0), (I, o), (L, oL)]) Lc (fun _ => none) H := by
    refine S5.perm ?_
    rw [show own ++ fr ++ [(D, LO [] 0), (I, o), (L, oL)] = (own ++ fr ++ [(D, LO [] 0), (I, o)]) ++ [(L, oL)] by simp]
    exact List.perm_append_comm (l₁ := [(L, oL)]) (l₂ := own ++ fr ++ [(D, LO [] 0), (I, o)])
  rw [ec]
  have loop : ∀ k, codeAny C.M A (.compLoop (.ListComp elt [⟨target, iter, [], 0⟩] scope pos) 0 (.ref I) (.ref D) (cenvOf scope env Lc (cs ++ cl))) (RR (.ref D) Lc) (C.st H k) := by
    intro k
    refine compLoop_any (C := C) (fun d s' => ∃ i P' fr' ys n' mc o' h' k', s' = C.st h' k' ∧ i ≤ n ∧ d = n + 1 - i ∧ Ext P P' ∧ Inv i P' fr' ys ∧ ys.length = i ∧ St C P' (fr' ++ [(D, LO ys n'), (I, o'), (L, oL)]) Lc mc h' ∧ Ok i o') ?_ (n + 1)
      ⟨0, P, _, [], 0, _, o, H, k, rfl, Nat.zero_le _, rfl, Ext.rfl, init, rfl, S6, ok⟩
    rintro d s' ⟨i, P', fr', ys, n', mc, o', h1, k1, rfl, hi, rfl, e, hI, hys, S7, ok1⟩
    have ho : h1.get? I = some o' := S7.sep.own (I, o') (by simp)
    have hnd := hneed i P' fr' ys _ mc h1 e hI S7
    have gI : (fr' ++ [(D, LO ys n'), (I, o'), (L, oL)])[fr'.length + 1]? = some (I, o') := by simp
    by_cases hlt : i < n
    · refine (it.item A hh i h1 o' hlt ho ok1 hnd).use fun r h2 k2 ⟨v, o2, er, hv, hs, ho2, ok2⟩ => ?_
      subst er
      refine (it.own A target v (i + 1) h2 o2 ht ho2 ok2).use fun _ h3 k3 e3 => ?_
      subst e3
      have S8 := S7.set (o' := o2) gI hs ho2
      rw [show (fr' ++ [(D, LO ys n'), (I, o'), (L, oL)]).set (fr'.length + 1) (I, o2) = fr' ++ [(D, LO ys n'), (I, o2), (L, oL)] by simp] at S8
      refine (turn i v P' fr' ys _ mc h3 hlt hv e hI hys S8).self.use fun _ h4 k4 z => z.use fun y h5 k5 ⟨P2, fr2, mc2, e2, hI2, S9⟩ => ?_
      refine (w_append (i := fr2.length) (vs := ys) (n := n') S9 (by simp) (by (first | lia | omega)) (Q := fun _ h' => ∃ n3, St C P2 (fr2 ++ [(D, LO (ys ++ [y]) n3), (I, o2), (L, oL)]) Lc mc2 h') fun h6 n3 S10 => ⟨n3, ?_⟩).use fun _ h6 k6 ⟨n3, S10⟩ => ?_
      · rwa [show (fr2 ++ [(D, LO ys n'), (I, o2), (L, oL)]).set fr2.length (D, LO (ys ++ [y]) n3) = fr2 ++ [(D, LO (ys ++ [y]) n3), (I, o2), (L, oL)] by simp] at S10
      · exact ⟨n + 1 - (i + 1), by (first | lia | omega), i + 1, P2, fr2, _, n3, mc2, o2, h6, k6, rfl, hlt, rfl, e.trans e2, hI2, by simp [hys], S10, ok2⟩
    · have hin : i = n := by (first | lia | omega)
      subst hin
      refine (it.done A hh h1 o' ho ok1 hnd).use fun r h2 k2 ⟨er, hx⟩ => ?_
      subst er
      have S8 : St C P' ((I, o') :: (L, oL) :: (D, LO ys n') :: fr') Lc mc h1 := by
        refine S7.perm ?_
        refine (List.perm_append_comm (l₁ := fr') (l₂ := [(D, LO ys n'), (I, o'), (L, oL)])).trans ?_
        exact (List.Perm.swap ..).trans ((List.Perm.swap ..).cons _)
      have S9 := S8.lose hx
      obtain ⟨oC', S10⟩ := back _ _ _ _ S9
      exact hR P' fr' ys D n' oC' h2 k2 e (fin P' fr' ys e hI hys) S10 ⟨mc, S9.ns⟩
  refine codeAny_compStart_list (loop k) ?_
  exact (it.self A 0 H o (S6.sep.own (I, o) (by simp)) ok).use fun v h' k' ⟨e1, e2⟩ => by subst e1; subst e2; exact loop k'

/-- an expression that is a comprehension -/
theorem w_comp {elt target iter : Expr} {scope : Scope} {cl : List (Str × Addr)} (hh : A.handled = none) (ht : Tgt target) (hclos : closureFor scope env = pure cl) (hk : scope.kind = .function)
    (hn : ∀ x ∈ scope.names, x.2 = .local → scope.names.lookup x.1 = some .local)
    (q : W C A (eval iter env) (fun x h₁ => W C A (pyIter x) (fun itv h₂ => ∃ P fr L m I o n val Ok need, itv = .ref I ∧ Itr C I n val Ok need ∧ St C P ((I, o) :: fr) L m h₂ ∧ Ok 0 o ∧ n ≤ sizeLine ∧
      ∀ Lc cs own, CellsAre (fun _ => none) cs own → cs ++ cl = cellsFrom (Lc + 1) scope.names cl → ∃ Fin, CompOb C A P (own ++ fr) n val need target elt (cenvOf scope env Lc (cs ++ cl)) Fin ∧
        ∀ P' fr' ys D n' h', Ext P P' → Fin P' fr' ys → St C P' ((D, LO ys n') :: fr') L m h' → Q (.ref D) h') h₁) h)
    (hs : ∀ x, foldedSetIterable iter env x = pure x := by intro _; with_unfolding_all rfl) :
    W C A (eval (.ListComp elt [⟨target, iter, [], 0⟩] scope pos) env) Q h := W.of fun k Q' g => by
  rw [eval_ListComp]
  refine wpAny_comprehension_free (use := none) rfl hs hclos hk hn (q.use fun xv h1 k1 q1 => q1.use fun itv h2 k2 q2 => ?_)
  obtain ⟨P, fr, L, m, I, o, n, val, Ok, need, rfl, it, S, ok, hz, ob⟩ := q2
  refine comp_core (RR := fun acc Lc => compPost C.M A (fun _ _ => False) none Q' acc Lc) it S ok hh ht hz fun Lc cs own hc he => ?_
  obtain ⟨Fin, co, fin⟩ := ob Lc cs own hc he
  exact ⟨Fin, co, fun P' fr' ys D n' oC h' k' e hf S' ⟨mc, hm⟩ => ⟨mc, hm, fun h3 hs3 => g _ _ _ (fin P' fr' ys D n' h3 e hf (S'.lose hs3.extBut))⟩⟩
/-- a name is bound to a comprehension -/
theorem w_acomp {x : Str} {p' : Pos} {elt target iter : Expr} {scope : Scope} {cl : List (Str × Addr)} {cpos : Pos} (hh : A.handled = none) (ht : Tgt target) (hclos : closureFor scope env = pure cl) (hk : scope.kind = .function)
    (hn : ∀ x ∈ scope.names, x.2 = .local → scope.names.lookup x.1 = some .local)
    (hsw : swapsWith (.ListComp elt [⟨target, iter, [], 0⟩] scope cpos) (some (.Name x p')) pos.line env = pure true)
    (hx : env.kindOf x = some .local) (hke : env.scope.kind = .function)
    (q : W C A (eval iter env) (fun x' h₁ => W C A (pyIter x') (fun itv h₂ => ∃ P fr m I o n val Ok need, itv = .ref I ∧ Itr C I n val Ok need ∧ St C P ((I, o) :: fr) env.locals m h₂ ∧ Ok 0 o ∧ n ≤ sizeLine ∧
      ∀ Lc cs own, CellsAre (fun _ => none) cs own → cs ++ cl = cellsFrom (Lc + 1) scope.names cl → ∃ Fin, CompOb C A P (own ++ fr) n val need target elt (cenvOf scope env Lc (cs ++ cl)) Fin ∧
        ∀ P' fr' ys D n' h', Ext P P' → Fin P' fr' ys → St C P' ((D, LO ys n') :: fr') env.locals (fun y => if y = x then some (.ref D) else m y) h' → Qf .next h') h₁) h)
    (hs : ∀ x, foldedSetIterable iter env x = pure x := by intro _; with_unfolding_all rfl) :
    W C A (exec (.Assign [.Name x p'] (.ListComp elt [⟨target, iter, [], 0⟩] scope cpos) pos) env) Qf h := W.of fun k Q' g => by
  rw [exec_Assign_Name_used _ _ _ _ hsw]
  refine wpAny_bind (wpAny_standAt (wpAny_bind ?_))
  show wpAny _ A (do let _ ← comprehension (.ListComp elt [⟨target, iter, [], 0⟩] scope cpos) scope env _ (newList []) false (eval iter env) (some (assign (.Name x p') env))) _ _ _
  refine wpAny_bind (wpAny_mono (wpAny_comprehension_free (use := some (assign (.Name x p') env)) (Q := fun _ s' => Q' .next s') (E := fun _ _ => False) rfl hs hclos hk hn
    (q.use fun xv h1 k1 q1 => q1.use fun itv h2 k2 q2 => ?_)) (fun _ s' hq => wpAny_pure (wpAny_pure hq)) fun _ _ e => e)
  obtain ⟨P, fr, m, I, o, n, val, Ok, need, rfl, it, S, ok, hz, ob⟩ := q2
  refine comp_core (RR := fun acc Lc => compPost C.M A (fun _ _ => False) (some (assign (.Name x p') env)) (fun _ s' => Q' .next s') acc Lc) it S ok hh ht hz fun Lc cs own hc he => ?_
  obtain ⟨Fin, co, fin⟩ := ob Lc cs own hc he
  refine ⟨Fin, co, fun P' fr' ys D n' oC h' k' e hf S' ⟨mc, hm⟩ => ?_⟩
  refine (w_asg (C := C) (Qu := fun _ h4 => h4.Ns Lc mc ∧ ∃ oC, St C P' ((Lc, oC) :: (D, LO ys n') :: fr') env.locals (fun y => if y = x then some (.ref D) else m y) h4) ?_).use fun _ h4 k4 ⟨hm4, oC4, S4⟩ => ⟨mc, hm4, fun h5 hs5 => g _ _ _ (fin P' fr' ys D n' h5 e hf (S4.lose hs5.extBut))⟩
  have hne : env.locals ≠ Lc := fun q => S'.offF (by rw [q]; exact List.mem_cons_self)
  exact W.of fun _ _ g => wpAny_storeName_local hx S'.ns (fun h5 hn5 hs5 => g _ _ _ ⟨hm.sameBut hs5 (Ne.symm hne), oC, S'.loc hn5 hs5⟩) (by rw [hke]; rfl)
end

/-! ## dicts -/
def nkIs : Option Int → Value → Bool
  | none, .none => true
  | some i, .int j _ => i == j
  | _, _ => false
theorem nkIs_none {v : Value} (h : nkIs none v = true) : v = .none := by cases v <;> first | rfl | cases h
theorem nkIs_some {i : Int} {v : Value} (h : nkIs (some i) v = true) : ∃ t, v = .int i t := by
  cases v <;> first | cases h | (rw [beq_iff_eq.mp h]; exact ⟨_, rfl⟩)
theorem hash_none {prog : Program} {w : World} {A : Around} {E : Value → Shared → Prop} {s : Shared} {Q : Int → Shared → Prop} (h : Q 0xFCA86420 { s with toks := s.toks + 1 }) : wpAny (model prog w) A (pyHash .none) Q E s := by
  have hT : s.TypeIs .none "NoneType" := rfl
  unfold pyHash
  have hv : [Value.none].any Value.onHeap = false := rfl
  refine wpAny_bind ?_
  rw [cRoomFor, if_neg (by rw [hv]; exact Bool.false_ne_true)]; refine wpAny_pure ?_
  refine wpAny_bind (wpAny_specialOf hT PySem.F.slot_NoneType_hash.lookup ?_)
  show wpAny _ _ (if (some (Value.builtin "NoneType.__hash__") == some Value.none) = true then _ else _) Q E s
  rw [if_neg (by rw [beq_builtin_none]; exact Bool.false_ne_true)]
  refine wpAny_bind (wpAny_specialOf hT PySem.F.slot_NoneType_hash.lookup ?_)
  show wpAny _ _ (callSpecialIfBoundUnlessNone? .none "__hash__" _ >>= _) Q E s
  refine wpAny_bind (wpAny_callSpecialIfBoundUnlessNone?_slot hT PySem.F.slot_NoneType_hash
    (wpAny_call_entry PySem.F.slot_NoneType_hash hT PySem.F.entry_NoneType_hash
      (show wpAny _ _ (do ret (← mkInt 0xFCA86420)) _ _ s from wpAny_ret_mkInt ?_) (PySem.F.args_NoneType_hash_1 _)))
  show wpAny _ _ (if (decide (-(2 : Int) ^ 63 ≤ 0xFCA86420) && decide ((0xFCA86420 : Int) < 2 ^ 63)) = true then _ else _) Q E _
  rw [if_pos (by decide)]
  exact wpAny_pure h
def nkKind (prog : Program) (w : World) : KeyKind prog w (Option Int) where
  is := nkIs
  hash := fun | none => 0xFCA86420 | some i => hashInt i
  inj := fun v a b ha hb => by
    cases a with
    | none =>
      rw [nkIs_none ha] at hb
      cases b with
      | none => rfl
      | some j => cases hb
    | some i =>
      obtain ⟨t, rfl⟩ := nkIs_some ha
      cases b with
      | none => cases hb
      | some j => rw [beq_iff_eq.mp hb]
  byValue := fun k v h => by
    cases k with
    | none => rw [nkIs_none h]; rfl
    | some i => obtain ⟨t, rfl⟩ := nkIs_some h; rfl
  pyHash := fun {A E s k v Q} hv h => by
    cases k with
    | none => rw [nkIs_none hv]; exact hash_none h
    | some i => obtain ⟨t, rfl⟩ := nkIs_some hv; exact wpAny_pyHash_int h
  eqBool := fun {A E s a b u v Q} hu hv h => by
    cases a with
    | none =>
      rw [nkIs_none hu]
      cases b with
      | none => rw [nkIs_none hv]; exact PySem.SeqAt.EqAt.same .none prog w E Q h
      | some i => obtain ⟨t, rfl⟩ := nkIs_some hv; exact PySem.SeqAt.EqAt.none_int i t prog w E Q h
    | some i =>
      obtain ⟨t, rfl⟩ := nkIs_some hu
      cases b with
      | none => rw [nkIs_none hv]; exact PySem.SeqAt.EqAt.int_none i t prog w E Q h
      | some j =>
        obtain ⟨t', rfl⟩ := nkIs_some hv
        refine PySem.SeqAt.EqAt.int_int i t j t' prog w E Q ?_
        have z : (i == j) = decide (some i = some j) := by
          by_cases e : i = j <;> simp [e]
        rw [z]
        exact h
  «strs» := fun k x t v h => by cases k <;> (exact nomatch h)

theorem contains_of_in {M : Model} {A : Around} {E : Value → Shared → Prop} {s : Shared} {d key : Value} {Q : Bool → Shared → Prop} (h : wpAny M A (compareOp .In key d) (fun v s' => ∃ b, v = .bool b ∧ Q b s') E s) :
    wpAny M A (contains d key) Q E s := fun Γ p hΓ => by
  have z := h Γ p hΓ
  have e : compareOp .In key d = (contains d key >>= fun b => pure (.bool b)) := rfl
  rw [e, Sem.wp_bind'] at z
  refine Sem.wp_mono M Γ _ (fun b p' s' z' => ?_) (fun _ _ _ y => y) _ _ z
  obtain ⟨b', e', q⟩ := z'
  cases e'
  exact q
def DOb {prog : Program} {w : World} {K : Type} [DecidableEq K] (knd : KeyKind prog w K) (o : Obj) (kvs : List (K × Value)) : Prop :=
  o.ExactDict ∧ ∃ es ep, o.data = .dict es ep ∧ KeysOf knd es ∧ Pairs knd es.toList kvs ∧ (kvs.map (·.1)).Nodup
section
variable {C : Cx} {A : Around} {P : Heap} {fr : Own} {L : Addr} {m : Str → Option Value} {h : Heap} {env : Env} {pos : Pos} {Q : Value → Heap → Prop} {K : Type} [DecidableEq K] {knd : KeyKind C.prog C.w K} {d : Addr} {o : Obj} {kvs : List (K × Value)} {k : K} {key v : Value}
theorem DOb.of (x : DOb knd o kvs) (e : h.get? d = some o) : h.DictOf knd d kvs := let ⟨a, es, ep, r⟩ := x; ⟨o, es, ep, e, a, r⟩
theorem DOb.nil : DOb knd ({ cls := .type "dict", data := .dict #[] } : Obj) [] := ⟨⟨rfl, rfl, rfl⟩, #[], 0, rfl, fun _ he => by simp at he, .nil, List.nodup_nil⟩
theorem St.big (S : St C P fr L m h) : 3 < h.objs.size := by
  obtain ⟨p, l, mg, mb, T⟩ := S.sep.base.t
  obtain ⟨o, _, _, ho, _⟩ := T.g
  exact Heap.lt_size (S.ext _ _ ho)
theorem w_newdict (S : St C P fr L m h) (q : ∀ a h', (a == sysModules) = false → St C P ((a, ({ cls := .type "dict", data := .dict #[] } : Obj)) :: fr) L m h' → Q (.ref a) h') : W C A (eval (.Dict [] [] pos) env) Q h :=
  W.of fun _ _ g => wpAny_Dict_empty (g _ _ _ (q _ _ (by have := S.big; exact beq_eq_false_iff_ne.mpr fun e => by rw [e] at this; exact absurd this (by decide)) (S.push _)))
theorem w_dset {Qu : Unit → Heap → Prop} {i : Nat} (S : St C P fr L m h) (hi : fr[i]? = some (d, o)) (x : DOb knd o kvs) (hk : knd.is k key = true) (hz : kvs.length ≤ sizeLine)
    (q : ∀ h' o', DOb knd o' (stored kvs k v) → St C P (fr.set i (d, o')) L m h' → Qu () h') : W C A (setItem (.ref d) key v) Qu h :=
  W.of fun _ _ g => wpAny_setItem_pairs hk (x.of (S.sep.own _ (List.mem_of_getElem? hi))) (fun h' hm hs => by
    obtain ⟨o', es, ep, ho', r⟩ := hm
    exact g _ _ _ (q h' o' ⟨r.1, es, ep, r.2⟩ (S.set hi hs ho'))) hz
theorem w_din (hd : (d == sysModules) = false) (x : DOb knd o kvs) (e : h.get? d = some o) (hk : knd.is k key = true) (q : Q (.bool (kvs.any fun kv => kv.1 = k)) h) : W C A (compareOp .In key (.ref d)) Q h :=
  W.of fun _ _ g => wpAny_in_of hk hd (x.of e).mapOf (by
    have : (valueAt kvs k).isSome = kvs.any fun kv => kv.1 = k := by
      unfold valueAt
      rw [Option.isSome_map, Bool.eq_iff_iff, List.find?_isSome, List.any_eq_true]
    rw [this]; exact g _ _ _ q)
theorem w_dnotin (hd : (d == sysModules) = false) (x : DOb knd o kvs) (e : h.get? d = some o) (hk : knd.is k key = true) (q : Q (.bool (!(kvs.any fun kv => kv.1 = k))) h) : W C A (compareOp .NotIn key (.ref d)) Q h :=
  W.of fun _ _ g => by
    show wpAny _ _ (do return Value.bool (!(← contains (.ref d) key))) _ _ _
    refine wpAny_bind (contains_of_in ((w_din (A := A) (Q := fun v h' => h' = h ∧ v = .bool (kvs.any fun kv => kv.1 = k)) hd x e hk ⟨rfl, rfl⟩).use fun v h' k' ⟨e1, e2⟩ => ?_))
    subst e1; subst e2
    exact ⟨_, rfl, wpAny_pure (g _ _ _ q)⟩
theorem w_ditem {value slice : Expr} (x : DOb knd o kvs) (e : h.get? d = some o) (hk : knd.is k key = true) (hv : valueAt kvs k = some v) (q : Q v h)
    (hs : subscripted slice false (.ref d) key = operate [.ref d, key] (getItem (.ref d) key)) : W C A (subscriptTail value slice (.ref d) key) Q h :=
  W.of fun _ _ g => tail_any (x.of e).typeIs slot_dict_getitem.lookup (wpAny_getItem_of hk (x.of e).mapOf hv (g _ _ _ q)) hs
theorem w_m_dget {pl : Sem Bool} {Q : Value × List Value → Heap → Prop} (x : DOb knd o kvs) (e : h.get? d = some o) (q : Q (.builtin "dict.get", [.ref d]) h) : W C A (getMethod (.ref d) "get" pl) Q h :=
  W.of fun _ _ g => getMethod_builtin (x.of e).typeIs PySem.F.plainAttrs_dict PySem.F.slot_dict_get PySem.F.type_dict_get (x.of e).mapOf.noDict (g _ _ _ q)
theorem w_dget (hd : (d == sysModules) = false) (x : DOb knd o kvs) (e : h.get? d = some o) (hk : knd.is k key = true) (q : Q ((valueAt kvs k).getD .none) h) : W C A (call (.builtin "dict.get") [.ref d, key]) Q h :=
  W.of fun _ _ g => call_meetsIn PySem.F.slot_dict_get (x.of e).typeIs PySem.F.entry_dict_get (PySem.F.args_dict_get_2 _ _) (meets_dict_get knd d hk hd) ⟨_, (x.of e).mapOf, g _ _ _ q⟩
theorem w_dget2 {df : Value} (hd : (d == sysModules) = false) (x : DOb knd o kvs) (e : h.get? d = some o) (hk : knd.is k key = true) (q : Q ((valueAt kvs k).getD df) h) : W C A (call (.builtin "dict.get") [.ref d, key, df]) Q h :=
  W.of fun _ _ g => call_meetsIn PySem.F.slot_dict_get (x.of e).typeIs PySem.F.entry_dict_get (PySem.F.args_dict_get_3 _ _ _) (meets_dict_get_default knd d hk hd df) ⟨_, (x.of e).mapOf, g _ _ _ q⟩
theorem w_dlen (hd : (d == sysModules) = false) (x : DOb knd o kvs) (e : h.get? d = some o) (hz : kvs.length < 2 ^ 62) (q : ∀ t, Q (.int kvs.length t) h) : W C A (call (.builtin "len") [.ref d]) Q h :=
  W.of fun _ _ g => call_len_dict hd (x.of e) (by (first | lia | omega)) (g _ _ _ (q _))

def KiOk {prog : Program} {w : World} {K : Type} [DecidableEq K] (_knd : KeyKind prog w K) (d : Addr) (n ep : Nat) (i : Nat) (o : Obj) : Prop := o.cls = .type "dict_keyiterator" ∧ o.data = .fields #[.ref d, .int i 0, .int n 0, .int ep 0]
theorem itr_keys (C : Cx) (I d : Addr) {K : Type} [DecidableEq K] (knd : KeyKind C.prog C.w K) (kvs : List (K × Value)) (ep : Nat) :
    Itr C I kvs.length (fun i key => ∃ k v, kvs[i]? = some (k, v) ∧ knd.is k key = true) (KiOk knd d kvs.length ep) (fun h => h.DictAt knd d kvs ep) where
  item := fun A hh i h o hi ho ok hn => W.of fun _ _ g => by
    obtain ⟨⟨k, x⟩, hx⟩ : ∃ p, kvs[i]? = some p := ⟨kvs[i], by simp [hi]⟩
    refine wpAny_pyNext_dict_item ⟨o, ho, ok⟩ hn hx fun key h' hk hit hs => ?_
    obtain ⟨o', ho', ok'⟩ := hit
    exact g _ _ _ ⟨_, o', rfl, ⟨k, x, hx, hk⟩, hs, ho', ok'⟩
  done := fun A hh h o ho ok hn => W.of fun _ _ g => wpAny_pyNext_dict_end hh ⟨o, ho, ok⟩ hn (by simp) fun h' he => g _ _ _ ⟨rfl, he⟩
  self := fun A i h o ho ok => W.of fun _ _ g => wpAny_pyIter_keyiter ⟨o, ho, ok⟩ (g _ _ _ ⟨rfl, rfl⟩)
  own := fun A t v i h o ht ho ok => W.of fun _ _ g => by
    obtain ⟨ok1, ok2⟩ := ok
    cases ht with
    | name x p => exact wpAny_pure (g _ _ _ rfl)
    | tup es k p =>
      unfold letOwnedTupleGo
      cases v <;> first
        | exact wpAny_pure (g _ _ _ rfl)
        | (refine wpAny_bind (wpAny_load ho ?_); rw [ok1, ok2]; dsimp only; exact wpAny_pure (g _ _ _ rfl))
theorem w_iter_keys (S : St C P fr L m h) (hd : (d == sysModules) = false) (x : DOb knd o kvs) (e : h.get? d = some o)
    (q : ∀ I oI h' ep, KiOk knd d kvs.length ep 0 oI → Itr C I kvs.length (fun i key => ∃ k v, kvs[i]? = some (k, v) ∧ knd.is k key = true) (KiOk knd d kvs.length ep) (fun h => h.DictAt knd d kvs ep) →
      (∀ h1 : Heap, h1.get? d = some o → h1.DictAt knd d kvs ep) → St C P ((I, oI) :: fr) L m h' → Ext h h' → Q (.ref I) h') : W C A (pyIter (.ref d)) Q h :=
  W.of fun _ _ g => by
    obtain ⟨a, es, ep, r⟩ := x
    have y : ∀ h1 : Heap, h1.get? d = some o → h1.DictAt knd d kvs ep := fun h1 e1 => ⟨o, es, e1, a, r⟩
    exact wpAny_pyIter_dict hd (y h e) (g _ _ _ (q _ _ _ ep ⟨rfl, rfl⟩ (itr_keys C _ d knd kvs ep) y (S.push _) (ext_push _ _)))

/-! ## dict displays -/
theorem w_pairs0 {Ql : List (Value × Value) → Heap → Prop} (q : Ql [] h) : W C A (evalPairs []) Ql h := W.of fun _ _ g => evalPairs_nil (g _ _ _ q)
theorem w_pairs1 {a b : Sem Value} {r : List (Sem Value × Sem Value)} {Ql : List (Value × Value) → Heap → Prop} (q : W C A a (fun kv h1 => W C A b (fun vv h2 => W C A (evalPairs r) (fun vs h3 => Ql ((kv, vv) :: vs) h3) h2) h1) h) :
    W C A (evalPairs ((a, b) :: r)) Ql h := W.of fun _ _ g => evalPairs_cons (q.use fun _ _ _ q => q.use fun _ _ _ q => q.use fun _ _ _ q => g _ _ _ q)
theorem w_stood {x : Sem Value} {p : Pos} (q : W C A x Q h) : W C A (do let v ← x; standAt p; pure v) Q h := W.of fun _ _ g => wpAny_bind (q.use fun _ _ _ q => wpAny_bind (wpAny_standAt (wpAny_pure (g _ _ _ q))))
theorem w_disp {keys : List (Option Expr)} {values : List Expr} {pairs : List (Sem Value × Sem Value)} (S : St C P fr L m h)
    (hshape : (evalEachOpt keys env).zip ((evalEach values env).map fun v => do let x ← v; standAt pos; pure x) = pairs.map fun p => (some p.1, p.2)) (h0 : pairs ≠ []) (hlen : pairs.length ≤ 15)
    (q : ∀ a h1, (a == sysModules) = false → St C P ((a, ({ cls := .type "dict", data := .dict #[] } : Obj)) :: fr) L m h1 → W C A (evalPairs pairs) (fun vs h2 => ∃ kvs P' fr' L' m' i, Carries (strKind C.prog C.w) vs kvs ∧ St C P' fr' L' m' h2 ∧
      fr'[i]? = some (a, ({ cls := .type "dict", data := .dict #[] } : Obj)) ∧ ∀ o' h3, DOb (strKind C.prog C.w) o' (merged [] kvs) → St C P' (fr'.set i (a, o')) L' m' h3 → Q (.ref a) h3) h1) :
    W C A (eval (.Dict keys values pos) env) Q h := W.of fun k Q' g => by
  refine wpAny_Dict_pairs (knd := strKind C.prog C.w) hshape h0 hlen ?_
  refine (q h.objs.size _ (by have := S.big; exact beq_eq_false_iff_ne.mpr fun e => by rw [e] at this; exact absurd this (by decide)) (S.push _)).use fun vs h2 k2 ⟨kvs, P', fr', L', m', i, hc, S2, hi, fin⟩ => ?_
  refine ⟨kvs, hc, DOb.of DOb.nil (S2.sep.own _ (List.mem_of_getElem? hi)), fun h3 hm hs => ?_⟩
  obtain ⟨o', es, ep, ho', r⟩ := hm
  exact g _ _ _ (fin o' h3 ⟨r.1, es, ep, r.2⟩ (S2.set hi hs ho'))
end

section
variable {C : Cx} {A : Around} {P : Heap} {fr : Own} {L : Addr} {m : Str → Option Value} {h : Heap} {env : Env} {pos : Pos} {Q : Value → Heap → Prop} {Qb : Bool → Heap → Prop}
theorem w_isi {x dx : Addr} {od : Obj} (X : (Mine.hd.heap_39 C.w.params).In h) (hx : h.get? x = some (IO dx)) (hd : h.get? dx = some od) (q : Q (.bool true) h) : W C A (call (.builtin "isinstance") [.ref x, .ref 164]) Q h :=
  W.of fun _ _ g => isi_call X (fun _ => PySem.W.InstAt.type (inst_of hx hd)) (v_isin _) (by intro e; cases e) (g _ _ _ q)
/-- texts in a tuple -/
inductive Strs : List Value → List Str → Prop
  | nil : Strs [] []
  | cons (x : Str) (t : Tok) {vs xs} : Strs vs xs → Strs (.str x t :: vs) (x :: xs)
theorem Strs.mem {vs : List Value} {xs : List Str} (s : Strs vs xs) : ∀ v ∈ vs, ∃ x t, v = .str x t := by
  induction s with
  | nil => intro v h; cases h
  | cons x t _ ih =>
    intro v h
    rcases List.mem_cons.mp h with rfl | h
    · exact ⟨_, _, rfl⟩
    · exact ih v h
def strEq (y : Str) : Value → Bool
  | .str x _ => x == y
  | _ => false
theorem Strs.any {vs : List Value} {xs : List Str} (s : Strs vs xs) (y : Str) : vs.any (strEq y) = xs.any (· == y) := by
  induction s with
  | nil => rfl
  | cons x t _ ih => simp [strEq, ih]
theorem strEq_at {A : Around} {s : Shared} {vs : List Value} {xs : List Str} (z : Strs vs xs) {x : Str} {t : Tok} : ∀ y, y ∈ vs.toArray → PySem.SeqAt.EqAt A s y (.str x t) (strEq x y) := fun y hy => by
  obtain ⟨a, u, rfl⟩ := z.mem y (by simpa using hy)
  exact PySem.SeqAt.EqAt.str_str a u x t
theorem w_tin {l : Addr} {vs : List Value} {xs : List Str} {n : Nat} {x : Str} {t : Tok} (e : h.get? l = some (TO vs n)) (z : Strs vs xs) (q : Q (.bool (xs.any (· == x))) h) : W C A (compareOp .In (.str x t) (.ref l)) Q h :=
  W.of fun _ _ g => PySem.SeqAt.in_tupleAt (strEq x) ⟨_, e, rfl, n, rfl⟩ (strEq_at z) (by simpa [z.any] using g _ _ _ q)
theorem w_tnotin {l : Addr} {vs : List Value} {xs : List Str} {n : Nat} {x : Str} {t : Tok} (e : h.get? l = some (TO vs n)) (z : Strs vs xs) (q : Q (.bool (!xs.any (· == x))) h) : W C A (compareOp .NotIn (.str x t) (.ref l)) Q h :=
  W.of fun _ _ g => PySem.SeqAt.notIn_tupleAt (strEq x) ⟨_, e, rfl, n, rfl⟩ (strEq_at z) (by simpa [z.any] using g _ _ _ q)
theorem w_lin {l : Addr} {vs : List Value} {xs : List Str} {n : Nat} {x : Str} {t : Tok} (e : h.get? l = some (LO vs n)) (z : Strs vs xs) (q : Q (.bool (xs.any (· == x))) h) : W C A (compareOp .In (.str x t) (.ref l)) Q h :=
  W.of fun _ _ g => PySem.SeqAt.in_listAt (strEq x) (isList_of e) (strEq_at z) (by simpa [z.any] using g _ _ _ q)
theorem w_str_int {a : Int} {t : Tok} (ha : a.natAbs < 2 ^ 60) (q : ∀ t, Q (.str (Str.ofString (toString a)) t) h) : W C A (call (.type "str") [.int a t]) Q h :=
  W.of fun _ _ g => PySem.P.str_of_int (by
    rcases Nat.eq_zero_or_pos a.natAbs with z | z
    · rw [z]; decide
    · exact Nat.lt_of_lt_of_le ((Nat.log2_lt (Nat.ne_of_gt z)).mpr ha) (by decide)) (g _ _ _ (q _))
theorem w_min {a b : Int} {t u : Tok} (hh : A.handled = none) (S : St C P fr L m h) (q : ∀ t h', St C P fr L m h' → Q (.int (min a b) t) h') : W C A (call (.builtin "min") [.int a t, .int b u]) Q h :=
  W.of fun _ _ g => min_two_N hh S.fr0 S.news0 fun h' tk F N => by
    rw [show (if b < a then b else a) = min a b by (first | lia | omega)]
    exact g _ _ _ (q _ _ (S.back0 F N))
theorem w_max {a b : Int} {t u : Tok} (hh : A.handled = none) (S : St C P fr L m h) (q : ∀ t h', St C P fr L m h' → Q (.int (max a b) t) h') : W C A (call (.builtin "max") [.int a t, .int b u]) Q h :=
  W.of fun _ _ g => max_two_N hh S.fr0 S.news0 fun h' tk F N => by
    rw [show (if b > a then b else a) = max a b by (first | lia | omega)]
    exact g _ _ _ (q _ _ (S.back0 F N))
theorem w_listadd {l b : Addr} {xs ys : List Value} {n k : Nat} (S : St C P fr L m h) (e : h.get? l = some (LO xs n)) (e' : h.get? b = some (LO ys k)) (hz : xs.length + ys.length ≤ sizeLine)
    (q : ∀ a h', St C P ((a, LO (xs ++ ys) 0) :: fr) L m h' → Q (.ref a) h') : W C A (binaryOp .Add (.ref l) (.ref b)) Q h :=
  W.of fun _ _ g => add_arrays S.fr0 S.news0 (isList_of e) (isList_of e') (fun h' F N => g _ _ _ (q _ _ (S.back1 F (by simpa using N) (none_size h)))) (by simpa using hz)
theorem w_m_pop {l : Addr} {vs : List Value} {n : Nat} {pl : Sem Bool} {Q : Value × List Value → Heap → Prop} (e : h.get? l = some (LO vs n)) (q : Q (.builtin "list.pop", [.ref l]) h) : W C A (getMethod (.ref l) "pop" pl) Q h :=
  W.of fun _ _ g => getMethod_builtin (isList_of e).typeIs PySem.F.plainAttrs_list PySem.F.slot_list_pop PySem.F.type_list_pop (fun a ea => by cases ea; exact ⟨_, e, rfl⟩) (g _ _ _ q)
theorem w_m_index {l : Addr} {vs : List Value} {n : Nat} {pl : Sem Bool} {Q : Value × List Value → Heap → Prop} (e : h.get? l = some (LO vs n)) (q : Q (.builtin "list.index", [.ref l]) h) : W C A (getMethod (.ref l) "index" pl) Q h :=
  W.of fun _ _ g => getMethod_builtin (isList_of e).typeIs PySem.F.plainAttrs_list PySem.F.slot_list_index PySem.F.type_list_index (fun a ea => by cases ea; exact ⟨_, e, rfl⟩) (g _ _ _ q)
theorem w_pop {l : Addr} {vs : List Value} {n i : Nat} {k : Int} {u : Tok} {y : Value} (S : St C P fr L m h) (hi : fr[i]? = some (l, LO vs n)) (h0 : 0 ≤ k) (hk : k < vs.length) (hz : vs.length ≤ 1000) (hy : vs[k.toNat]? = some y)
    (q : ∀ h' n', St C P (fr.set i (l, LO (vs.eraseIdx k.toNat) n')) L m h' → Q y h') : W C A (call (.builtin "list.pop") [.ref l, .int k u]) Q h := W.of fun kk Q' g => by
  have e := S.sep.own _ (List.mem_of_getElem? hi)
  have key : Obj.mapSeq (fun xs => xs.eraseIdxIfInBounds k.toNat) (LO vs n) = LO (vs.eraseIdx k.toNat) (n + 1) := by
    show Obj.mk _ _ (Data.seq (vs.toArray.eraseIdxIfInBounds k.toNat) (if (vs.toArray.eraseIdxIfInBounds k.toNat).size == vs.toArray.size then n else n + 1)) _ = _
    have e1 : vs.toArray.eraseIdxIfInBounds k.toNat = (vs.eraseIdx k.toNat).toArray := by simp [List.eraseIdxIfInBounds_toArray]
    have c : ((vs.eraseIdx k.toNat).toArray.size == vs.toArray.size) = false := by
      rw [List.size_toArray, List.size_toArray, List.length_eraseIdx]
      have : k.toNat < vs.length := by (first | lia | omega)
      simp [this]; (first | lia | omega)
    rw [e1, c]; rfl
  refine call_meets PySem.F.slot_list_pop (isList_of e).typeIs PySem.F.entry_list_pop (PySem.F.args_list_pop_2 _ _)
    (PySem.MeetsSeq.list_pop_at l vs.toArray n k u k.toNat y (by unfold Builtin.List.listFitsIndex; simp; (first | lia | omega)) (by
      unfold seqIndex?
      rw [List.size_toArray]
      have : k.toNat < vs.length := by (first | lia | omega)
      simp only [show ¬ k < 0 by (first | lia | omega), if_false]
      simp; (first | lia | omega)) (by simpa using hy) (by rw [List.size_toArray, sizeLine_eq]; (first | lia | omega))) ⟨e, ?_⟩
  have := S.upd (o := LO vs n) hi (Obj.mapSeq fun xs => xs.eraseIdxIfInBounds k.toNat) (by rw [key]; rfl)
  rw [key] at this
  exact g _ _ _ (q _ _ this)
end

section
variable {C : Cx} {A : Around} {P : Heap} {fr : Own} {L : Addr} {m : Str → Option Value} {h : Heap} {env : Env} {pos : Pos} {Q : Value → Heap → Prop} {Qf : Flow → Heap → Prop}
/-- the obligations of a comprehension without cells of its own, once its iterator stands -/
def Comp0 (C : Cx) (A : Around) (L : Addr) (target elt : Expr) (scope : Scope) (cl : List (Str × Addr)) (env : Env) (Fin : (Str → Option Value) → Heap → Own → Addr → List Value → Nat → Prop) (itv : Value) (h₂ : Heap) : Prop :=
  ∃ P fr m I o n val Ok need, itv = .ref I ∧ Itr C I n val Ok need ∧ St C P ((I, o) :: fr) L m h₂ ∧ Ok 0 o ∧ n ≤ sizeLine ∧
    ∃ Inv : Nat → Heap → Own → List Value → Prop, Inv 0 P fr [] ∧
      (∀ i P' fr' ys G Lc mc h', Ext P P' → Inv i P' fr' ys → St C P' (fr' ++ G) Lc mc h' → need h') ∧
      (∀ Lc i v P' fr' ys G mc h', i < n → val i v → Ext P P' → Inv i P' fr' ys → ys.length = i → St C P' (fr' ++ G) Lc mc h' →
        Gn (fun y h2 => ∃ P'' fr'' mc', Ext P' P'' ∧ Inv (i + 1) P'' fr'' (ys ++ [y]) ∧ St C P'' (fr'' ++ G) Lc mc' h2) fun Q9 => W C A (assign target (cenvOf scope env Lc cl) v) (fun _ h1 => W C A (eval elt (cenvOf scope env Lc cl)) Q9 h1) h') ∧
      (∀ P' fr' ys D n', Ext P P' → Inv n P' fr' ys → ys.length = n → Fin m P' fr' D ys n')
theorem no_cells {Lc : Addr} {cs cl : List (Str × Addr)} {own : Own} {names : List (Str × NameKind)} {cm : Str → Option Value} (hnc : ∀ n, cellsFrom n names cl = cl) (hc : CellsAre cm cs own) (he : cs ++ cl = cellsFrom (Lc + 1) names cl) : cs = [] ∧ own = [] := by
  rw [hnc] at he
  have : cs = [] := by simpa using he
  subst this
  cases hc
  exact ⟨rfl, rfl⟩
theorem w_comp0 {elt target iter : Expr} {scope : Scope} {cl : List (Str × Addr)} (L : Addr) (hh : A.handled = none) (ht : Tgt target) (hclos : closureFor scope env = pure cl) (hk : scope.kind = .function)
    (hn : ∀ x ∈ scope.names, x.2 = .local → scope.names.lookup x.1 = some .local) (hnc : ∀ n, cellsFrom n scope.names cl = cl)
    (q : W C A (eval iter env) (fun x h₁ => W C A (pyIter x) (Comp0 C A L target elt scope cl env (fun m P' fr' D ys n' => ∀ h', St C P' ((D, LO ys n') :: fr') L m h' → Q (.ref D) h')) h₁) h)
    (hs : ∀ x, foldedSetIterable iter env x = pure x := by intro _; with_unfolding_all rfl) :
    W C A (eval (.ListComp elt [⟨target, iter, [], 0⟩] scope pos) env) Q h := by
  refine w_comp hh ht hclos hk hn (q.mono fun x h₁ q1 => q1.mono fun itv h₂ q2 => ?_) hs
  obtain ⟨P, fr, m, I, o, n, val, Ok, need, e, it, S, ok, hz, Inv, i0, hneed, turn, fin⟩ := q2
  refine ⟨P, fr, L, m, I, o, n, val, Ok, need, e, it, S, ok, hz, fun Lc cs own hc he => ?_⟩
  obtain ⟨rfl, rfl⟩ := no_cells hnc hc he
  exact ⟨fun P' fr' ys => Inv n P' fr' ys ∧ ys.length = n, ⟨⟨Inv, i0, fun i P' fr' ys G mc h' => hneed i P' fr' ys G _ mc h', fun i v P' fr' ys G mc h' => turn Lc i v P' fr' ys G mc h', fun _ _ _ _ a b => ⟨a, b⟩⟩⟩,
    fun P' fr' ys D n' h' e' f => fin P' fr' ys D n' e' f.1 f.2 h'⟩
theorem w_acomp0 {x : Str} {p' : Pos} {elt target iter : Expr} {scope : Scope} {cl : List (Str × Addr)} {cpos : Pos} (hh : A.handled = none) (ht : Tgt target) (hclos : closureFor scope env = pure cl) (hk : scope.kind = .function)
    (hn : ∀ x ∈ scope.names, x.2 = .local → scope.names.lookup x.1 = some .local) (hnc : ∀ n, cellsFrom n scope.names cl = cl)
    (hsw : swapsWith (.ListComp elt [⟨target, iter, [], 0⟩] scope cpos) (some (.Name x p')) pos.line env = pure true)
    (hx : env.kindOf x = some .local) (hke : env.scope.kind = .function)
    (q : W C A (eval iter env) (fun x' h₁ => W C A (pyIter x') (Comp0 C A env.locals target elt scope cl env (fun m P' fr' D ys n' => ∀ h', St C P' ((D, LO ys n') :: fr') env.locals (fun y => if y = x then some (.ref D) else m y) h' → Qf .next h')) h₁) h)
    (hs : ∀ x, foldedSetIterable iter env x = pure x := by intro _; with_unfolding_all rfl) :
    W C A (exec (.Assign [.Name x p'] (.ListComp elt [⟨target, iter, [], 0⟩] scope cpos) pos) env) Qf h := by
  refine w_acomp hh ht hclos hk hn hsw hx hke (q.mono fun x h₁ q1 => q1.mono fun itv h₂ q2 => ?_) hs
  obtain ⟨P, fr, m, I, o, n, val, Ok, need, e, it, S, ok, hz, Inv, i0, hneed, turn, fin⟩ := q2
  refine ⟨P, fr, m, I, o, n, val, Ok, need, e, it, S, ok, hz, fun Lc cs own hc he => ?_⟩
  obtain ⟨rfl, rfl⟩ := no_cells hnc hc he
  exact ⟨fun P' fr' ys => Inv n P' fr' ys ∧ ys.length = n, ⟨⟨Inv, i0, fun i P' fr' ys G mc h' => hneed i P' fr' ys G _ mc h', fun i v P' fr' ys G mc h' => turn Lc i v P' fr' ys G mc h', fun _ _ _ _ a b => ⟨a, b⟩⟩⟩,
    fun P' fr' ys D n' h' e' f => fin P' fr' ys D n' e' f.1 f.2 h'⟩
end

section
variable {C : Cx} {A : Around} {P : Heap} {fr : Own} {L : Addr} {m : Str → Option Value} {h : Heap} {env : Env} {pos : Pos} {Q : Value → Heap → Prop} {Qf : Flow → Heap → Prop}
theorem w_while {test : Expr} {body : List Stmt} (J : Nat → Heap → Prop)
    (turn : ∀ n h, J n h → W C A (isTrue test env (eval test env)) (fun b h2 => (b = true → W C A (execs body env) (fun f h3 => (f = .next ∨ f = .cont) ∧ ∃ m, m < n ∧ J m h3) h2) ∧ (b = false → Qf .next h2)) h)
    (n : Nat) (hJ : J n h) : W C A (exec (.While test body [] pos) env) Qf h :=
  W.of fun k Q' g => by
    refine wpAny_While ?_
    refine codeAny_whileLoop (fun n s' => ∃ h' k', s' = C.st h' k' ∧ J n h') (fun n s' ⟨h', k', e, hj⟩ => ?_) n ⟨h, k, rfl, hJ⟩
    subst e
    refine (turn n h' hj).use fun b h2 k2 q => ?_
    cases b
    · simp only [Bool.false_eq_true, if_false]; exact wpAny_execs_nil (g _ _ _ (q.2 rfl))
    · simp only [if_true]
      refine (q.1 rfl).use fun f h3 k3 ⟨hf, m, hm, hj'⟩ => ?_
      rcases hf with rfl | rfl <;> exact ⟨m, hm, h3, k3, rfl, hj'⟩
theorem upd_upd {x : Str} {a b : Option Value} {m : Str → Option Value} : (fun y => if y = x then a else (fun y => if y = x then b else m y) y) = fun y => if y = x then a else m y := by
  funext y
  by_cases e : y = x <;> simp [e]
end
/-! ## numbers as texts -/
def num (k : Nat) : Str := Str.ofString (toString (k : Int))
theorem num_inj {a b : Nat} (h : num a = num b) : a = b := by
  have e := congrArg (fun s : Str => s.cps.toList) h
  unfold num at e
  rw [KIN.signs_num, KIN.signs_num] at e
  rw [← KIN.val_back a, ← KIN.val_back b, e]
theorem str_app_inj {x a b : Str} (h : x ++ a = x ++ b) : a = b := by
  have e := congrArg (fun s : Str => s.cps.toList) h
  have e1 : ∀ u v : Str, (u ++ v).cps.toList = u.cps.toList ++ v.cps.toList := fun u v => by show (u.cps ++ v.cps).toList = _; simp
  rw [e1, e1] at e
  have e2 := List.append_cancel_left e
  cases a; cases b
  congr
  exact Array.toList_inj.mp e2
theorem num_len {k : Nat} (h : k < 10 ^ 9) : (num k).length ≤ 9 := by
  have := PyProof.Rows.toString_length_le (v := (k : Int)) (by (first | lia | omega)) (k := 9) (by decide) (by exact_mod_cast h)
  exact this
/-! ## keys of a dict -/
theorem any_key {K : Type} [DecidableEq K] {kvs : List (K × Value)} {k : K} : (kvs.any fun kv => decide (kv.1 = k)) = decide (k ∈ kvs.map (·.1)) := by
  rw [Bool.eq_iff_iff]
  simp only [List.any_eq_true, decide_eq_true_eq, List.mem_map]
theorem mem_stored {K : Type} [DecidableEq K] {kvs : List (K × Value)} {k k' : K} {v : Value} : k' ∈ (stored kvs k v).map (·.1) ↔ k' = k ∨ k' ∈ kvs.map (·.1) := by
  unfold stored
  split
  · rename_i hany
    have hk : k ∈ kvs.map (·.1) := by rw [any_key] at hany; simpa using hany
    have e : (kvs.map fun kv => if kv.1 = k then (kv.1, v) else kv).map (·.1) = kvs.map (·.1) := by
      rw [List.map_map]
      apply List.map_congr_left
      intro a _
      simp only [Function.comp]
      split <;> rfl
    rw [e]
    exact ⟨.inr, fun o => o.elim (fun e => e ▸ hk) id⟩
  · rw [List.map_append, List.mem_append]
    simp [or_comm]
theorem stored_len {K : Type} [DecidableEq K] {kvs : List (K × Value)} {k : K} {v : Value} : (stored kvs k v).length ≤ kvs.length + 1 := by
  unfold stored
  split <;> simp
theorem stored_mem {K : Type} [DecidableEq K] {kvs : List (K × Value)} {k : K} {v : Value} {p : K × Value} (h : p ∈ stored kvs k v) : p.2 = v ∨ p ∈ kvs := by
  unfold stored at h
  split at h
  · obtain ⟨q, hq, e⟩ := List.mem_map.mp h
    split at e
    · subst e; exact .inl rfl
    · subst e; exact .inr hq
  · rcases List.mem_append.mp h with h | h
    · exact .inr h
    · rw [List.mem_singleton.mp h]; exact .inl rfl
theorem valueAt_mem {K : Type} [DecidableEq K] {kvs : List (K × Value)} {k : K} {v : Value} (h : valueAt kvs k = some v) : (k, v) ∈ kvs := by
  unfold valueAt at h
  obtain ⟨p, hp, e⟩ := Option.map_eq_some_iff.mp h
  have h1 := List.mem_of_find?_eq_some hp
  have h2 := List.find?_some hp
  have h3 : p.1 = k := by simpa using h2
  subst h3; subst e; exact h1
/-- how many of a list are behind a number -/
noncomputable def meas (T : List Str) (base : Str) (n : Nat) : Nat := by
  classical
  exact (T.filter fun s => decide (∃ k, n ≤ k ∧ s = base ++ num k)).length
theorem meas_le (T : List Str) (base : Str) (n : Nat) : meas T base n ≤ T.length := by
  unfold meas; exact List.length_filter_le _ _
theorem filter_lt {α : Type} {p q : α → Bool} (hpq : ∀ x, p x = true → q x = true) : ∀ {l : List α} {a : α}, a ∈ l → q a = true → p a = false → (l.filter p).length < (l.filter q).length := by
  have le : ∀ l : List α, (l.filter p).length ≤ (l.filter q).length := by
    intro l
    induction l with
    | nil => exact Nat.le_refl _
    | cons x l ih =>
      simp only [List.filter_cons]
      by_cases hp : p x = true
      · rw [if_pos hp, if_pos (hpq x hp)]; simpa using ih
      · rw [if_neg hp]
        split
        · simp; (first | lia | omega)
        · exact ih
  intro l
  induction l with
  | nil => intro a h; cases h
  | cons x l ih =>
    intro a h hq hp
    simp only [List.filter_cons]
    rcases List.mem_cons.mp h with rfl | h
    · rw [if_neg (by rw [hp]; exact Bool.false_ne_true), if_pos hq]
      have := le l
      simp; (first | lia | omega)
    · have := ih h hq hp
      by_cases hpx : p x = true
      · rw [if_pos hpx, if_pos (hpq x hpx)]; simpa using this
      · rw [if_neg hpx]
        split
        · simp; (first | lia | omega)
        · exact this
theorem meas_lt {T : List Str} {base : Str} {n : Nat} (h : base ++ num n ∈ T) : meas T base (n + 1) < meas T base n := by
  unfold meas
  refine filter_lt (a := base ++ num n) ?_ h ?_ ?_
  · intro x hx
    simp only [decide_eq_true_eq] at hx ⊢
    obtain ⟨k, hk, e⟩ := hx
    exact ⟨k, by (first | lia | omega), e⟩
  · simp only [decide_eq_true_eq]
    exact ⟨n, Nat.le_refl _, rfl⟩
  · simp only [decide_eq_false_iff_not]
    rintro ⟨k, hk, e⟩
    have := num_inj (str_app_inj e)
    (first | lia | omega)

local macro_rules | `(tactic| walk_at "s") => `(tactic| first
  | with_reducible refine Gn.in (fun _ _ => ?_)
  | ((with_reducible show W _ _ (execs (bodyOf _) _) _ _); (with_unfolding_all refine w_cons ?_))
  | with_reducible refine Fl.next ?_
  | with_reducible refine Fl.ret (Rt.ret ?_)
  | with_reducible refine Fl.ret ?_
  | with_reducible refine Fl.cont ?_
  | with_reducible refine w_continue ?_
  | with_reducible refine w_cons ?_
  | with_reducible refine w_nil ?_
  | with_reducible refine w_ret ?_
  | (with_reducible refine w_assign ?_ (by with_unfolding_all rfl))
  | (with_reducible refine w_setattr ?_ (by with_unfolding_all rfl))
  | (with_reducible refine w_setsub ?_ (by with_unfolding_all rfl))
  | (with_reducible refine w_if ?_)
  | (with_reducible refine w_expr0 ?_ (by with_unfolding_all rfl) (by with_unfolding_all rfl))
  | (with_reducible refine w_aug ?_)
  | (with_reducible refine w_int (fun _ => ?_))
  | (with_reducible refine w_str (fun _ => ?_))
  | (with_reducible refine w_none ?_)
  | (with_reducible refine w_bool ?_)
  | (with_reducible refine w_binop ?_)
  | (with_reducible refine w_unop ?_)
  | (with_reducible refine w_cmp ?_ (by with_unfolding_all rfl))
  | (with_reducible refine w_t_cmp ?_ (by with_unfolding_all rfl))
  | (with_reducible refine w_t_not ?_)
  | (with_reducible refine w_t_bool ?_)
  | (with_reducible refine w_t_val ?_ (by with_unfolding_all rfl))
  | (with_reducible refine w_and0 ?_)
  | (with_reducible refine w_or0 ?_)
  | (with_reducible refine w_and1 ?_)
  | (with_reducible refine w_or1 ?_)
  | (with_reducible refine w_or2 ?_)
  | (with_reducible refine w_ifexp ?_)
  | (with_reducible refine w_tr_bool ?_)
  | (with_reducible refine w_add (fun _ => ?_))
  | (with_reducible refine w_sub (fun _ => ?_))
  | (with_reducible refine w_neg (fun _ => ?_))
  | (with_reducible refine w_iadd (fun _ => ?_))
  | (with_reducible refine w_lt ?_)
  | (with_reducible refine w_gt ?_)
  | (with_reducible refine w_le ?_)
  | (with_reducible refine w_ge ?_)
  | (with_reducible refine w_eqi ?_)
  | (with_reducible refine w_nei ?_)
  | (with_reducible refine w_eqs ?_)
  | (with_reducible refine w_nes ?_)
  | (with_reducible refine w_is0 ?_)
  | (with_reducible refine w_isnot0 ?_)
  | (with_reducible refine w_list ?_)
  | (with_reducible refine w_tuple ?_)
  | (with_reducible refine w_args0 ?_)
  | (with_reducible refine w_pairs1 ?_)
  | (with_reducible refine w_pairs0 ?_)
  | (with_reducible refine w_stood ?_)
  | (with_reducible refine w_args1 ?_ (by with_unfolding_all rfl))
  | (with_reducible refine w_meth ?_ (by with_unfolding_all rfl))
  | (with_reducible refine w_call ?_ (by with_unfolding_all rfl))
  | (with_reducible refine w_attr ?_ (by with_unfolding_all rfl))
  | (with_reducible refine w_sub_ ?_)
  | (with_reducible refine' w_cw_K ?hk ?_ ?he ?hp; (case he => with_unfolding_all rfl); (case hp => with_unfolding_all rfl); (case hk => k_is))
  | (with_reducible refine' w_cw_B ?hk ?_ ?he ?hp; (case hk => exact rfl); (case he => with_unfolding_all rfl); (case hp => with_unfolding_all rfl))
  | (with_reducible refine' w_cw_0 ?hk ?hx ?_; (case hk => k_is); (case hx => exact St.In (by assumption)))
  | (with_reducible refine' w_cw_B0 ?hk ?_; (case hk => exact rfl))
  | ((with_reducible show W _ _ (newTuple _) _ _); (refine w_newTuple (by assumption) (fun _ _ _ => ?_)))
  | (with_reducible refine And.intro (St.In (by assumption)) ?_)
  | (with_reducible refine Rt.ret ?_)
  | (with_reducible refine Gu (by assumption) ?_))
local macro_rules | `(tactic| walk_at "n") => `(tactic| first
  | (with_reducible refine' w_loc (by assumption) ?hv ?_ ?h1 ?h2 ?h3 ?h4; (case h3 => with_unfolding_all rfl); (case hv => first | with_unfolding_all rfl | with_unfolding_all assumption); (case h1 => with_unfolding_all rfl); (case h2 => with_unfolding_all rfl); (case h4 => decide +kernel))
  | (with_reducible refine' w_ldname (by assumption) ?hv ?_ ?h1 ?h2 ?h3; (case h3 => with_unfolding_all rfl); (case hv => first | with_unfolding_all rfl | with_unfolding_all assumption); (case h1 => with_unfolding_all rfl); (case h2 => with_unfolding_all rfl))
  | (with_reducible refine' w_glob (by assumption) ?hv ?_ ?h1 ?h2 ?h3 ?h4; (case h3 => with_unfolding_all rfl); (case hv => k_is); (case h1 => with_unfolding_all rfl); (case h2 => with_unfolding_all rfl); (case h4 => decide +kernel))
  | (with_reducible refine' w_bi (by assumption) ?hk ?hv ?_ ?h0 ?h1 ?hb ?h2 ?h3 ?h4; (case h3 => with_unfolding_all rfl); (case hk => k_is); (case hv => boot_fast); (case h0 => decide +kernel); (case h1 => with_unfolding_all rfl); (case hb => with_unfolding_all rfl); (case h2 => with_unfolding_all rfl); (case h4 => decide +kernel))
  | (with_reducible refine' w_cell (by assumption) ?hc ?hm ?ho ?_ ?h1 ?h2 ?h3; (case h2 => with_unfolding_all rfl); (case hc => with_unfolding_all rfl); (case hm => k_dflt k_mem); (case ho => k_dflt assumption); (case h1 => with_unfolding_all rfl); (case h3 => decide +kernel))
  | (with_reducible refine' w_free (by assumption) ?hc ?hm ?ho ?_ ?h1 ?h2 ?h3 ?h4; (case h2 => with_unfolding_all rfl); (case hc => with_unfolding_all rfl); (case hm => k_dflt k_mem); (case ho => k_dflt assumption); (case h1 => with_unfolding_all rfl); (case h3 => decide +kernel); (case h4 => decide +kernel))
  | (with_reducible refine' w_st_loc (by assumption) (fun _ _ => ?_) ?h1 ?h2 ?h3; (case h3 => with_unfolding_all rfl); (case h1 => with_unfolding_all rfl); (case h2 => with_unfolding_all rfl)))

set_option hygiene false in
local macro_rules | `(tactic| walk_at "sides") => `(tactic| ((case ho => k_is); (case hcd => k_is); (case hb => (intro k9; exact BindsTo.of_eq rfl)); (case hl => exact locs rfl); (case hc => decide); (case h6 => exact rfl); (case h7 => exact rfl); (case h8 => exact rfl)))
set_option hygiene false in
local macro_rules | `(tactic| walk_at "sidesC") => `(tactic| ((case ho => k_is); (case hcd => k_is); (case hb => (intro k9; exact BindsTo.of_eq rfl)); (case hl => exact rfl); (case hc => decide +kernel); (case h6 => exact rfl); (case h7 => exact rfl); (case h8 => exact rfl)))
local macro_rules | `(tactic| walk_at "d") => `(tactic| first
  | (with_unfolding_all refine ⟨fun c => absurd (show false = true from c) Bool.false_ne_true, fun _ => ?_⟩)
  | (with_unfolding_all refine ⟨fun _ => ?_, fun c => absurd (show false = true from Eq.symm c) Bool.false_ne_true⟩)
  | (refine ⟨fun c => absurd c (by decide +kernel), fun _ => ?_⟩)
  | (refine ⟨fun _ => ?_, fun c => absurd c (by decide +kernel)⟩))
local macro_rules | `(tactic| walk_at "w") => `(tactic| repeat (first | walk_at "s" | walk_at "n"))
local macro_rules | `(tactic| walk_at "wd") => `(tactic| repeat (first | walk_at "s" | walk_at "n" | walk_at "d"))

local macro_rules | `(tactic| walk_at "up") => `(tactic| first | assumption | exact St.ext (by assumption) _ _ (by assumption))
local macro_rules | `(tactic| walk_at "g") => `(tactic| first
  | (with_reducible refine' w_items ?a ?b ?c ?d ?_; (case a => exact St.In (by assumption)); (case b => walk_at "up"); (case c => walk_at "up"); (case d => first | assumption | k_handed))
  | (with_reducible refine' w_kind ?a ?b ?c ?d ?_; (case a => exact St.In (by assumption)); (case b => walk_at "up"); (case c => walk_at "up"); (case d => first | assumption | k_handed))
  | (with_reducible refine' w_attrs ?a ?b ?c ?d ?_; (case a => exact St.In (by assumption)); (case b => walk_at "up"); (case c => walk_at "up"); (case d => first | assumption | k_handed)))

set_option hygiene false in
local macro_rules | `(tactic| walk_at "S") => `(tactic| (with_reducible rename St _ _ _ _ _ _ => S))

set_option maxHeartbeats 1000000
/-! ## leaves -/
inductive Lf : Value → PyData → Prop
  | none : Lf .none .none
  | int (i : Int) (t : Tok) : Lf (.int i t) (.int i)
  | str (s : Str) (t : Tok) : Lf (.str s t) (.str s)
inductive Lfs : List Value → List PyData → Prop
  | nil : Lfs [] []
  | cons {v d vs ds} : Lf v d → Lfs vs ds → Lfs (v :: vs) (d :: ds)
theorem Lfs.length {vs : List Value} {ds : List PyData} (x : Lfs vs ds) : vs.length = ds.length := by
  induction x with
  | nil => rfl
  | cons _ _ ih => simp [ih]
theorem Lfs.append {vs vs' : List Value} {ds ds' : List PyData} (x : Lfs vs ds) (y : Lfs vs' ds') : Lfs (vs ++ vs') (ds ++ ds') := by
  induction x with
  | nil => exact y
  | cons a _ ih => exact .cons a ih
theorem Lfs.get {vs : List Value} {ds : List PyData} (x : Lfs vs ds) : ∀ {i : Nat} {d : PyData}, ds[i]? = some d → ∃ v, vs[i]? = some v ∧ Lf v d := by
  induction x with
  | nil => intro i d e; simp at e
  | cons a _ ih =>
    intro i d e
    cases i with
    | zero => cases e; exact ⟨_, rfl, a⟩
    | succ i => exact ih (by simpa using e)

theorem c_init {C : Cx} {A : Around} {P : Heap} {fr : Own} {h : Heap} {x dx : Addr} {k i a : Value} {as : List Value} {n : Nat} (r : Rm A n) (S : Sep C P ((dx, dictOf [] 0) :: fr) h) (hx : P.get? x = some (IO dx))
    (has : (as = [.ref x, k, i] ∧ a = .none) ∨ as = [.ref x, k, i, a]) :
    WK C A (.call (.ref 154) ⟨as, []⟩) (fun v h' => v = .none ∧ ∃ t1 t2 t3 t4 t5, Sep C P ((dx, VD C t1 t2 t3 t4 t5 k i a (.bool false) (.bool false)) :: fr) h') h := by
  refine' k_def (binds := [("self", .ref x), ("kind", k), ("items", i), ("attrs", a)]) S r ?ho ?hcd ?hb ?hloc ?hcell ?hco ?hgen ?hk ?_
  case ho => k_is
  case hcd => k_is
  case hloc => exact locs rfl
  case hcell => decide
  case hco => exact rfl
  case hgen => exact rfl
  case hk => exact rfl
  case hb =>
    intro k
    rcases has with ⟨rfl, rfl⟩ | rfl
    · exact binds_K (S.base.k.keeps S.sub) rfl (by k_is) rfl rfl rfl
    · first | exact BindsTo.of_eq rfl | exact binds_K (S.base.k.keeps S.sub) rfl (by k_is) rfl rfl rfl
  intro L h1 S1 _
  have X := S1.ext _ _ hx
  walk_at "w"
  refine w_set (i := 0) S1 X rfl (v_t1 _) rfl (fun _ => rfl) rfl (fun _ => Nat.le_of_ble_eq_true rfl) (fun h2 t1 S2 => ?_)
  replace X := S2.ext _ _ hx
  walk_at "w"
  refine w_set (i := 0) S2 X rfl (v_t2 _) rfl (fun _ => rfl) rfl (fun _ => Nat.le_of_ble_eq_true rfl) (fun h3 t2 S3 => ?_)
  replace X := S3.ext _ _ hx
  walk_at "w"
  refine w_set (i := 0) S3 X rfl (v_t3 _) rfl (fun _ => rfl) rfl (fun _ => Nat.le_of_ble_eq_true rfl) (fun h4 t3 S4 => ?_)
  replace X := S4.ext _ _ hx
  walk_at "w"
  refine w_set (i := 0) S4 X rfl (v_t4 _) rfl (fun _ => rfl) rfl (fun _ => Nat.le_of_ble_eq_true rfl) (fun h5 t4 S5 => ?_)
  replace X := S5.ext _ _ hx
  walk_at "w"
  refine w_set (i := 0) S5 X rfl (v_t5 _) rfl (fun _ => rfl) rfl (fun _ => Nat.le_of_ble_eq_true rfl) (fun h6 t5 S6 => ?_)
  walk_at "w"
  exact ⟨rfl, t1, t2, t3, t4, t5, S6.sep⟩

theorem Rm.make {A : Around} {n : Nat} {c : Addr} {vs : List Value} (r : Rm A (n + 1)) : Rm (A.under (.builtin "type.__call__" ⟨.ref c :: vs, []⟩)) n :=
  ⟨r.handled, by have := r.depth; rw [depth_under_make]; (first | lia | omega), by
    have := r.units
    show A.units + Code.cUnits _ + 8 * n + 100 < _
    have e : Code.cUnits (.builtin "type.__call__" ⟨.ref c :: vs, []⟩) = 1 := by rfl
    rw [e]; (first | lia | omega)⟩

/-- Vector(..) -/
theorem w_new {C : Cx} {A : Around} {P : Heap} {fr : Own} {L : Addr} {m : Str → Option Value} {h : Heap} {k i a : Value} {as : List Value} {n : Nat} {Q : Value → Heap → Prop} (r : Rm A (n + 1)) (S : St C P fr L m h)
    (has : (as = [k, i] ∧ a = .none) ∨ as = [k, i, a])
    (q : ∀ x dx P' t1 t2 t3 t4 t5 h', Ext P P' → P'.get? x = some (IO dx) → St C P' ((dx, VD C t1 t2 t3 t4 t5 k i a (.bool false) (.bool false)) :: fr) L m h' → Q (.ref x) h') : W C A (call (.ref 164) as) Q h := by
  refine W.of fun kk Q' g => wpAny_call ?_
  refine PySem.W.make_K S.fr0 S.news0 S.In (v_make _) (v_init _) (v_initfn _) fun x dx h' F N l1 l2 => ?_
  have S1 : St C P ((dx, emptyDict) :: fr) L m h' := S.backN F (fun p hp => N p (.tail _ hp)) l1
  have S2 : St C P ((x, instObj 164 dx) :: (dx, emptyDict) :: fr) L m h' := by
    refine S1.backN F (N := fun p hp => N p (by simpa using hp)) fun q hq => ?_
    rcases List.mem_append.mp hq with hq | hq
    · rcases List.mem_cons.mp hq with rfl | hq
      · exact l2
      · exact Nat.lt_trans (l1 q (List.mem_append_left _ hq)) l2
    · exact Nat.lt_trans (l1 q (List.mem_append_right _ hq)) l2
  obtain ⟨P', e, S3, hx⟩ := S2.freeze1
  obtain ⟨oL, S4, back⟩ := S3.toSep
  have z := c_init (r.make (c := 164) (vs := as)) (S4.perm (List.Perm.swap ..)) hx (k := k) (i := i) (a := a) (as := .ref x :: as) (has.imp (fun z => ⟨by rw [z.1], z.2⟩) fun z => by rw [z])
  refine z.use (k := kk) fun v h2 k2 hx9 => ?_
  obtain ⟨hv, t1, t2, t3, t4, t5, S5⟩ := hx9
  exact ⟨hv, g _ _ _ (q x dx P' t1 t2 t3 t4 t5 h2 e hx (back _ _ _ (S5.perm (List.Perm.swap ..))))⟩

set_option maxHeartbeats 1000000
/-- integer(items), character(items) -/
theorem c_integer {C : Cx} {A : Around} {P : Heap} {fr : Own} {h : Heap} {l : Addr} {vs : List Value} {n nn : Nat} (r : Rm A (n + 2)) (S : Sep C P fr h) (hl : h.get? l = some (LO vs nn)) (hz : vs.length ≤ 1000) :
    W C A (call (.ref 175) [.ref l]) (fun v h' => ∃ P' own, Ext P P' ∧ Sep C P' (own ++ fr) h' ∧ ∃ x dx it n' t1 t2 t3 t4 t5 t, v = .ref x ∧ P'.get? x = some (IO dx) ∧ P'.get? it = some (LO vs n') ∧
      own = [(dx, VD C t1 t2 t3 t4 t5 (.str "integer" t) (.ref it) .none (.bool false) (.bool false))]) h := by
  refine (WK.w ?_)
  refine' k_def (binds := [("items", .ref l)]) S r ?ho ?hcd ?hb ?hl ?hc ?h6 ?h7 ?h8 ?_
  walk_at "sides"
  intro L h1 S1 e1
  walk_at "w"
  refine w_listcopy S1 (e1 _ _ hl) (by rw [sizeLine_eq]; (first | lia | omega)) (fun a n' h2 S2 => ?_)
  walk_at "w"
  refine w_new (r.deeper) S2 (.inl ⟨rfl, rfl⟩) (fun x dx P' t1 t2 t3 t4 t5 h3 e2 hx S3 => ?_)
  walk_at "w"
  obtain ⟨P2, e3, S4, ha⟩ := (S3.perm (List.Perm.swap ..)).freeze1
  exact ⟨P2, _, e2.trans e3, S4.sep, x, dx, a, n', t1, t2, t3, t4, t5, _, rfl, e3 _ _ hx, ha, rfl⟩
theorem c_character {C : Cx} {A : Around} {P : Heap} {fr : Own} {h : Heap} {l : Addr} {vs : List Value} {n nn : Nat} (r : Rm A (n + 2)) (S : Sep C P fr h) (hl : h.get? l = some (LO vs nn)) (hz : vs.length ≤ 1000) :
    W C A (call (.ref 182) [.ref l]) (fun v h' => ∃ P' own, Ext P P' ∧ Sep C P' (own ++ fr) h' ∧ ∃ x dx it n' t1 t2 t3 t4 t5 t, v = .ref x ∧ P'.get? x = some (IO dx) ∧ P'.get? it = some (LO vs n') ∧
      own = [(dx, VD C t1 t2 t3 t4 t5 (.str "character" t) (.ref it) .none (.bool false) (.bool false))]) h := by
  refine (WK.w ?_)
  refine' k_def (binds := [("items", .ref l)]) S r ?ho ?hcd ?hb ?hl ?hc ?h6 ?h7 ?h8 ?_
  walk_at "sides"
  intro L h1 S1 e1
  walk_at "w"
  refine w_listcopy S1 (e1 _ _ hl) (by rw [sizeLine_eq]; (first | lia | omega)) (fun a n' h2 S2 => ?_)
  walk_at "w"
  refine w_new (r.deeper) S2 (.inl ⟨rfl, rfl⟩) (fun x dx P' t1 t2 t3 t4 t5 h3 e2 hx S3 => ?_)
  walk_at "w"
  obtain ⟨P2, e3, S4, ha⟩ := (S3.perm (List.Perm.swap ..)).freeze1
  exact ⟨P2, _, e2.trans e3, S4.sep, x, dx, a, n', t1, t2, t3, t4, t5, _, rfl, e3 _ _ hx, ha, rfl⟩

/-! ## shapes -/
structure CV where
  x : Addr
  dx : Addr
  it : Addr
  t1 : Tok
  t2 : Tok
  t3 : Tok
  t4 : Tok
  t5 : Tok
  tk : Tok
  k : Str
  a : Value
  s : Value
  l : Value
abbrev CV.obj (C : Cx) (c : CV) : Obj := VD C c.t1 c.t2 c.t3 c.t4 c.t5 (.str c.k c.tk) (.ref c.it) c.a c.s c.l
structure Col where
  k : Str
  items : List PyData
  fac : Bool
abbrev sk (C : Cx) := strKind C.prog C.w
def Plain (C : Cx) (P : Heap) (x : Addr) (k : Str) (items : List PyData) : Prop :=
  ∃ c : CV, c.x = x ∧ c.k = k ∧ c.a = .none ∧ P.get? c.x = some (IO c.dx) ∧ P.get? c.dx = some (c.obj C) ∧ ∃ vs n, P.get? c.it = some (LO vs n) ∧ Lfs vs items ∧ vs.length ≤ 1000
def FacAt (C : Cx) (P : Heap) (a : Value) : Prop :=
  ∃ da vl vc o, a = .ref da ∧ (da == sysModules) = false ∧ P.get? da = some o ∧ DOb (sk C) o [("levels", .ref vl), ("class", .ref vc)] ∧ Plain C P vl "character" [.str "p", .str "q", .str "r"] ∧ Plain C P vc "character" [.str "factor"]
def AtIs (C : Cx) (P : Heap) (fac : Bool) (a : Value) : Prop := (fac = false ∧ a = .none) ∨ (fac = true ∧ FacAt C P a)
/-- a column, but for its own dict -/
def ColIs (C : Cx) (P : Heap) (c : CV) (col : Col) : Prop :=
  c.k = col.k ∧ P.get? c.x = some (IO c.dx) ∧ (∃ vs n, P.get? c.it = some (LO vs n) ∧ Lfs vs col.items ∧ vs.length ≤ 1000) ∧ AtIs C P col.fac c.a
def ColAt (C : Cx) (P : Heap) (x : Addr) (col : Col) : Prop := ∃ c : CV, c.x = x ∧ P.get? c.dx = some (c.obj C) ∧ ColIs C P c col
inductive Cols (C : Cx) (P : Heap) : List Addr → List Col → Prop
  | nil : Cols C P [] []
  | cons {x xs c cs} : ColAt C P x c → Cols C P xs cs → Cols C P (x :: xs) (c :: cs)
structure Fm where
  cols : List Col
  names : List Str
  lk : Str
  labs : List PyData
structure FV where
  x : Addr
  dx : Addr
  it : Addr
  da : Addr
  nx : Addr
  cx : Addr
  rx : Addr
  t1 : Tok
  t2 : Tok
  t3 : Tok
  t4 : Tok
  t5 : Tok
  tk : Tok
  s : Value
  l : Value
abbrev FV.obj (C : Cx) (c : FV) : Obj := VD C c.t1 c.t2 c.t3 c.t4 c.t5 (.str "list" c.tk) (.ref c.it) (.ref c.da) c.s c.l
def FrameIs (C : Cx) (P : Heap) (v : FV) (f : Fm) : Prop :=
  P.get? v.x = some (IO v.dx) ∧ P.get? v.dx = some (v.obj C) ∧ (∃ xs n, P.get? v.it = some (LO (xs.map Value.ref) n) ∧ Cols C P xs f.cols ∧ xs.length ≤ 1000) ∧ (v.da == sysModules) = false ∧
    (∃ o, P.get? v.da = some o ∧ DOb (sk C) o [("names", .ref v.nx), ("class", .ref v.cx), ("row.names", .ref v.rx)]) ∧
    Plain C P v.nx "character" (f.names.map .str) ∧ Plain C P v.cx "character" [.str "data.frame"] ∧ Plain C P v.rx f.lk f.labs
def FrameAt (C : Cx) (P : Heap) (x : Addr) (f : Fm) : Prop := ∃ v : FV, v.x = x ∧ FrameIs C P v f
section
variable {C : Cx} {P P' : Heap}
theorem Plain.ext {x : Addr} {k : Str} {items : List PyData} (h : Plain C P x k items) (e : Ext P P') : Plain C P' x k items := by
  obtain ⟨c, e1, e2, e3, h1, h2, vs, n, h3, h4⟩ := h
  exact ⟨c, e1, e2, e3, e _ _ h1, e _ _ h2, vs, n, e _ _ h3, h4⟩
theorem FacAt.ext {a : Value} (h : FacAt C P a) (e : Ext P P') : FacAt C P' a := by
  obtain ⟨da, vl, vc, o, e1, e2, h1, h2, h3, h4⟩ := h
  exact ⟨da, vl, vc, o, e1, e2, e _ _ h1, h2, h3.ext e, h4.ext e⟩
theorem AtIs.ext {f : Bool} {a : Value} (h : AtIs C P f a) (e : Ext P P') : AtIs C P' f a := h.imp id fun z => ⟨z.1, z.2.ext e⟩
theorem ColIs.ext {c : CV} {col : Col} (h : ColIs C P c col) (e : Ext P P') : ColIs C P' c col := by
  obtain ⟨h1, h2, ⟨vs, n, h3, h4⟩, h5⟩ := h
  exact ⟨h1, e _ _ h2, ⟨vs, n, e _ _ h3, h4⟩, h5.ext e⟩
theorem ColAt.ext {x : Addr} {col : Col} (h : ColAt C P x col) (e : Ext P P') : ColAt C P' x col := by
  obtain ⟨c, h1, h2, h3⟩ := h
  exact ⟨c, h1, e _ _ h2, h3.ext e⟩
theorem Cols.ext {xs : List Addr} {cs : List Col} (h : Cols C P xs cs) (e : Ext P P') : Cols C P' xs cs := by
  induction h with
  | nil => exact .nil
  | cons a _ ih => exact .cons (a.ext e) ih
theorem FrameIs.ext {v : FV} {f : Fm} (h : FrameIs C P v f) (e : Ext P P') : FrameIs C P' v f := by
  obtain ⟨h1, h2, ⟨xs, n, h3, h4, h5⟩, h6, ⟨o, h7, h8⟩, h9, h10, h11⟩ := h
  exact ⟨e _ _ h1, e _ _ h2, ⟨xs, n, e _ _ h3, h4.ext e, h5⟩, h6, ⟨o, e _ _ h7, h8⟩, h9.ext e, h10.ext e, h11.ext e⟩
theorem FrameAt.ext {x : Addr} {f : Fm} (h : FrameAt C P x f) (e : Ext P P') : FrameAt C P' x f := let ⟨v, a, b⟩ := h; ⟨v, a, b.ext e⟩
theorem Plain.col {x : Addr} {k : Str} {items : List PyData} (h : Plain C P x k items) : ColAt C P x ⟨k, items, false⟩ := by
  obtain ⟨c, e1, e2, e3, h1, h2, h3⟩ := h
  exact ⟨c, e1, h2, e2, h1, h3, .inl ⟨rfl, e3⟩⟩
end

/-- get_attr(v, name) -/
theorem c_get_attr {C : Cx} {A : Around} {P : Heap} {fr : Own} {h : Heap} {x dx : Addr} {t1 t2 t3 t4 t5 : Tok} {k i a s l r : Value} {nm : Str} {tk : Tok} {n : Nat} (rm : Rm A n) (S : Sep C P fr h)
    (hx : P.get? x = some (IO dx)) (hd : P.get? dx = some (VD C t1 t2 t3 t4 t5 k i a s l))
    (hr : (a = .none ∧ r = .none) ∨ ∃ da o kvs, a = .ref da ∧ (da == sysModules) = false ∧ P.get? da = some o ∧ DOb (sk C) o kvs ∧ r = (valueAt kvs nm).getD .none) :
    W C A (call (.ref 203) [.ref x, .str nm tk]) (fun v h' => Sep C P fr h' ∧ v = r) h := by
  refine (WK.w ?_)
  refine' k_def (binds := [("v", .ref x), ("name", .str nm tk)]) S rm ?ho ?hcd ?hb ?hl ?hc ?h6 ?h7 ?h8 ?_
  walk_at "sides"
  intro L h1 S1 _
  walk_at "w"
  rcases hr with ⟨rfl, rfl⟩ | ⟨da, o, kvs, rfl, hs, ho, hk, rfl⟩
  · walk_at "g"
    walk_at "wd"
    exact ⟨S1.sep, rfl⟩
  · walk_at "g"
    walk_at "wd"
    walk_at "g"
    refine w_m_dget hk (S1.ext _ _ ho) ?_
    walk_at "w"
    refine w_dget hs hk (S1.ext _ _ ho) (strKind_is _ _ nm tk) ?_
    walk_at "w"
    exact ⟨S1.sep, rfl⟩

set_option maxHeartbeats 1000000
theorem c_share {C : Cx} {A : Around} {P : Heap} {fr : Own} {h : Heap} {x dx : Addr} {t1 t2 t3 t4 t5 : Tok} {k i a s l : Value} {n : Nat} (rm : Rm A n)
    (S : Sep C P ((dx, VD C t1 t2 t3 t4 t5 k i a s l) :: fr) h) (hx : P.get? x = some (IO dx)) :
    W C A (call (.ref 196) [.ref x]) (fun v h' => v = .ref x ∧ Sep C P ((dx, VD C t1 t2 t3 t4 t5 k i a (.bool true) l) :: fr) h') h := by
  refine (WK.w ?_)
  refine' k_def (binds := [("v", .ref x)]) S rm ?ho ?hcd ?hb ?hl ?hc ?h6 ?h7 ?h8 ?_
  walk_at "sides"
  intro L h1 S1 _
  walk_at "w"
  refine w_isi S1.In (S1.ext _ _ hx) (S1.sep.own _ (.head _)) ?_
  walk_at "wd"
  refine w_set (i := 0) S1 (S1.ext _ _ hx) rfl (v_t4 _) rfl (fun _ => rfl) rfl (fun _ => Nat.le_of_ble_eq_true rfl) (fun h2 t S2 => ?_)
  walk_at "wd"
  exact ⟨rfl, S2.sep⟩

theorem c_frame_rows {C : Cx} {A : Around} {P : Heap} {fr : Own} {h : Heap} {x : Addr} {f : Fm} {n : Nat} (rm : Rm A n) (S : Sep C P fr h) (hf : FrameAt C P x f) :
    W C A (call (.ref 265) [.ref x]) (fun v h' => Sep C P fr h' ∧ ∃ t, v = .int f.labs.length t) h := by
  obtain ⟨v, rfl, hx, hd, -, hs, ⟨o, ho, hk⟩, -, -, ⟨c, ex, -, -, hx', hd', vs, nn, hv, hl, hz⟩⟩ := hf
  refine (WK.w ?_)
  refine' k_def (binds := [("df", .ref v.x)]) S rm ?ho ?hcd ?hb ?hl ?hc ?h6 ?h7 ?h8 ?_
  walk_at "sides"
  intro L h1 S1 _
  walk_at "w"
  walk_at "g"
  walk_at "wd"
  walk_at "g"
  refine w_dnotin hs hk (S1.ext _ _ ho) (strKind_is _ _ _ _) ?_
  walk_at "wd"
  walk_at "g"
  walk_at "w"
  refine w_ditem hk (S1.ext _ _ ho) (strKind_is _ _ _ _) rfl ?_ (by with_unfolding_all rfl)
  rw [← ex]
  walk_at "g"
  walk_at "w"
  refine w_len (S1.ext _ _ hv) (by (first | lia | omega)) (fun t => ?_)
  walk_at "w"
  exact ⟨S1.sep, _, by rw [hl.length]⟩

set_option maxHeartbeats 1000000
theorem c_dim_of {C : Cx} {A : Around} {P : Heap} {fr : Own} {h : Heap} {x : Addr} {f : Fm} {n : Nat} (rm : Rm A (n + 1)) (S : Sep C P fr h) (hf : FrameAt C P x f) :
    W C A (call (.ref 234) [.ref x]) (fun v h' => Sep C P fr h' ∧ v = .none) h := by
  obtain ⟨v, rfl, hx, hd, -, hs, ⟨o, ho, hk⟩, -⟩ := hf
  refine (WK.w ?_)
  refine' k_def (binds := [("v", .ref v.x)]) S rm ?ho ?hcd ?hb ?hl ?hc ?h6 ?h7 ?h8 ?_
  walk_at "sides"
  intro L h1 S1 _
  walk_at "w"
  refine S1.callR (fun fr' S' => c_get_attr rm.deeper S' hx hd (.inr ⟨_, o, _, rfl, hs, ho, hk, rfl⟩)) fun v' h2 S2 hv => ?_
  replace hv := hv.trans (show _ = Value.none from by with_unfolding_all rfl)
  subst hv
  walk_at "wd"
  exact ⟨St.leave (by assumption), rfl⟩

theorem c_names_of {C : Cx} {A : Around} {P : Heap} {fr : Own} {h : Heap} {x : Addr} {f : Fm} {n : Nat} (rm : Rm A (n + 2)) (S : Sep C P fr h) (hf : FrameAt C P x f) :
    W C A (call (.ref 227) [.ref x]) (fun v h' => ∃ P', Ext P P' ∧ Sep C P' fr h' ∧ ∃ l vs k, v = .ref l ∧ P'.get? l = some (LO vs k) ∧ Lfs vs (f.names.map .str) ∧ vs.length ≤ 1000) h := by
  have hf0 := hf
  obtain ⟨v, rfl, hx, hd, -, hs, ⟨o, ho, hk⟩, ⟨c, ex, -, -, hx', hd', vs, nn, hv, hl, hz⟩, -⟩ := hf
  refine (WK.w ?_)
  refine' k_def (binds := [("v", .ref v.x)]) S rm ?ho ?hcd ?hb ?hl ?hc ?h6 ?h7 ?h8 ?_
  walk_at "sides"
  intro L h1 S1 _
  walk_at "w"
  walk_at "g"
  walk_at "wd"
  walk_at "g"
  walk_at "wd"
  refine S1.callR (fun fr' S' => c_dim_of rm.deeper S' hf0) fun v' h2 S2 hv' => ?_
  subst hv'
  walk_at "wd"
  walk_at "S"
  refine S.callR (fun fr' S' => c_get_attr rm.deeper S' hx hd (.inr ⟨_, o, _, rfl, hs, ho, hk, rfl⟩)) fun v' h3 S3 hv' => ?_
  replace hv' := hv'.trans (show _ = Value.ref v.nx from by with_unfolding_all rfl)
  subst hv'
  walk_at "wd"
  rw [← ex]
  walk_at "g"
  walk_at "w"
  walk_at "S"
  refine w_listcopy S (S.ext _ _ hv) (by rw [sizeLine_eq]; (first | lia | omega)) (fun a n' h4 S4 => ?_)
  walk_at "w"
  obtain ⟨P2, e2, S5, ha⟩ := S4.freeze1
  exact ⟨P2, e2, S5.sep, a, vs, n', rfl, ha, hl, hz⟩

theorem c_column_names {C : Cx} {A : Around} {P : Heap} {fr : Own} {h : Heap} {x : Addr} {f : Fm} {n : Nat} (rm : Rm A (n + 3)) (S : Sep C P fr h) (hf : FrameAt C P x f) :
    W C A (call (.ref 270) [.ref x]) (fun v h' => ∃ P', Ext P P' ∧ Sep C P' fr h' ∧ ∃ l vs k, v = .ref l ∧ P'.get? l = some (LO vs k) ∧ Lfs vs (f.names.map .str) ∧ vs.length ≤ 1000) h := by
  refine (WK.w ?_)
  refine' k_def (binds := [("df", .ref x)]) S rm ?ho ?hcd ?hb ?hl ?hc ?h6 ?h7 ?h8 ?_
  walk_at "sides"
  intro L h1 S1 _
  walk_at "w"
  refine S1.call (fun fr' S' => c_names_of rm.deeper S' hf) fun v' P2 h2 e2 S2 hx9 => ?_
  obtain ⟨l, vs, k, ev, hv, hl, hz⟩ := hx9
  subst ev
  walk_at "wd"
  refine w_comp0 L rm.deeper.handled (.name _ _) (by with_unfolding_all rfl) rfl (by decide) (fun _ => rfl) ?_
  walk_at "w"
  refine w_iter_list (by assumption) (St.ext (by assumption) _ _ hv) (fun I o h' ok it S3 e3 => ?_)
  refine ⟨_, _, _, I, o, _, _, _, _, rfl, it, S3, ok, by rw [sizeLine_eq]; (first | lia | omega), fun i P' fr' ys => fr' = fr ∧ Lfs ys ((f.names.map PyData.str).take i), ⟨rfl, .nil⟩, ?_, ?_, ?_⟩
  · intro i P' fr' ys G Lc mc h' e _ S
    exact isList_of (S.ext _ _ (e _ _ hv))
  · rintro Lc i v P' fr' ys G mc h' hi hvi e ⟨rfl, hI⟩ hlen S
    have hi' : i < f.names.length := by have := hl.length; simp at this; (first | lia | omega)
    obtain ⟨u, hu, lf⟩ := hl.get (i := i) (d := .str f.names[i]) (by simp [hi'])
    rw [hvi] at hu
    cases hu
    cases lf with
    | str s t =>
      refine Gn.in fun _ _ => ?_
      refine w_asg ?_
      walk_at "wd"
      (try refine Gu (by assumption) ?_)
      refine ⟨_, _, _, Ext.rfl, ⟨rfl, ?_⟩, by assumption⟩
      rw [List.take_succ]
      simp only [List.getElem?_map]
      rw [List.getElem?_eq_getElem hi']
      exact hI.append (.cons (.str _ _) .nil)
  · rintro P' fr' ys D n' e ⟨rfl, hI⟩ hlen h' S
    walk_at "w"
    obtain ⟨P3, e4, S5, ha⟩ := S.freeze1
    rw [List.take_of_length_le (by rw [← hl.length]; exact Nat.le_refl _)] at hI
    exact ⟨P3, (e2.trans e).trans e4, S5.sep, D, ys, n', rfl, ha, hI, by (first | lia | omega)⟩

set_option maxHeartbeats 1000000
def labelOf (k : Str) (d : PyData) : PyData := if k = "character" then d else match d with
  | .int i => .str (Str.ofString (toString i))
  | d => d
/-- what a label may be -/
def LabOk (k : Str) (d : PyData) : Prop := (k = "integer" ∧ ∃ i : Int, d = .int i ∧ i.natAbs < 2 ^ 60) ∨ (k = "character" ∧ ∃ s, d = .str s)
theorem c_label_text {C : Cx} {A : Around} {P : Heap} {fr : Own} {h : Heap} {k : Str} {tk : Tok} {u : Value} {d : PyData} {n : Nat} (rm : Rm A n) (S : Sep C P fr h) (lf : Lf u d) (ok : LabOk k d) :
    W C A (call (.ref 210) [.str k tk, u]) (fun v h' => Sep C P fr h' ∧ Lf v (labelOf k d)) h := by
  refine (WK.w ?_)
  refine' k_def (binds := [("kind", .str k tk), ("item", u)]) S rm ?ho ?hcd ?hb ?hl ?hc ?h6 ?h7 ?h8 ?_
  walk_at "sides"
  intro L h1 S1 _
  rcases ok with ⟨rfl, i, rfl, hi⟩ | ⟨rfl, s, rfl⟩
  · cases lf with
    | int i t =>
      walk_at "wd"
      refine w_str_int hi (fun t => ?_)
      walk_at "wd"
      exact ⟨St.leave (by assumption), .str _ _⟩
  · cases lf with
    | str s t =>
      walk_at "wd"
      exact ⟨St.leave (by assumption), .str _ _⟩

theorem c_label_texts {C : Cx} {A : Around} {P : Heap} {fr : Own} {h : Heap} {x : Addr} {k : Str} {items : List PyData} {n : Nat} (rm : Rm A (n + 2)) (S : Sep C P fr h) (hf : Plain C P x k items) (hok : ∀ d ∈ items, LabOk k d) :
    W C A (call (.ref 222) [.ref x]) (fun v h' => ∃ P', Ext P P' ∧ Sep C P' fr h' ∧ ∃ l vs k', v = .ref l ∧ P'.get? l = some (LO vs k') ∧ Lfs vs (items.map (labelOf k)) ∧ vs.length ≤ 1000) h := by
  obtain ⟨⟨cx, cdx, cit, t1, t2, t3, t4, t5, tk, ck, ca, cs, cl⟩, ex, ek, ea, hx, hd, vs, nn, hv, hl, hz⟩ := hf
  dsimp only at ex ek ea hx hd hv
  subst ex; subst ek; subst ea
  refine (WK.w ?_)
  refine' k_defC (binds := [("value", .ref cx)]) S rm ?ho ?hcd ?hb ?hl ?hc ?h6 ?h7 ?h8 ?_
  walk_at "sidesC"
  intro L h1 cells S1 _ Y
  obtain ⟨o1, o2, rfl, d1, d2⟩ := CellsAre.two Y
  replace d1 : o1.data = .cell none := d1.trans (by with_unfolding_all rfl)
  replace d2 : o2.data = .cell (some (.ref cx)) := d2.trans (by with_unfolding_all rfl)
  replace S1 : St C P ((L + 1 + 1, o1) :: (L + 1, o2) :: fr) L (fun _ => none) h1 := S1
  walk_at "w"
  refine S1.callR (fun fr' S' => c_get_attr rm.deeper S' hx hd (.inl ⟨rfl, rfl⟩)) fun v' h3 S3 hv' => ?_
  subst hv'
  walk_at "wd"
  refine w_comp0 L rm.deeper.handled (.name _ _) (by with_unfolding_all rfl) rfl (by decide) (fun _ => rfl) ?_
  walk_at "w"
  walk_at "g"
  walk_at "w"
  refine w_iter_list (by assumption) (St.ext (by assumption) _ _ hv) (fun I o h' ok it S3 e3 => ?_)
  refine ⟨_, _, _, I, o, _, _, _, _, rfl, it, S3, ok, by rw [sizeLine_eq]; (first | lia | omega), fun i P' fr' ys => fr' = (L + 1 + 1, o1) :: (L + 1, o2) :: fr ∧ Lfs ys ((items.map (labelOf ck)).take i), ⟨rfl, .nil⟩, ?_, ?_, ?_⟩
  · intro i P' fr' ys G Lc mc h' e _ S
    exact isList_of (S.ext _ _ (e _ _ hv))
  · rintro Lc i v P' fr' ys G mc h' hi hvi e ⟨rfl, hI⟩ hlen S
    have hi' : i < items.length := by have := hl.length; (first | lia | omega)
    obtain ⟨u, hu, lf⟩ := hl.get (i := i) (d := items[i]) (by simp [hi'])
    rw [hvi] at hu
    cases hu
    have hx' := e _ _ hx
    have hd' := e _ _ hd
    refine Gn.in fun _ _ => ?_
    refine w_asg ?_
    walk_at "wd"
    walk_at "g"
    walk_at "wd"
    walk_at "S"
    refine S.callR (fun fr' S' => c_label_text (rm.deeper) S' lf (hok _ (List.getElem_mem hi'))) fun v' h4 S4 lf' => ?_
    (try refine Gu (by assumption) ?_)
    refine ⟨_, _, _, Ext.rfl, ⟨rfl, ?_⟩, S4⟩
    rw [List.take_succ]
    simp only [List.getElem?_map]
    rw [List.getElem?_eq_getElem hi']
    exact hI.append (.cons lf' .nil)
  · rintro P' fr' ys D n' e ⟨rfl, hI⟩ hlen h' S
    walk_at "w"
    obtain ⟨P3, e4, S5, ha⟩ := S.freeze (own := [(D, LO ys n'), (L + 1 + 1, o1), (L + 1, o2)])
    rw [List.take_of_length_le (by rw [List.length_map, ← hl.length]; exact Nat.le_refl _)] at hI
    exact ⟨P3, e.trans e4, S5.sep, D, ys, n', rfl, ha _ (.head _), hI, by (first | lia | omega)⟩

set_option maxHeartbeats 400000
theorem c_row_names {C : Cx} {A : Around} {P : Heap} {fr : Own} {h : Heap} {x : Addr} {f : Fm} {n : Nat} (rm : Rm A (n + 3)) (S : Sep C P fr h) (hf : FrameAt C P x f) (hok : ∀ d ∈ f.labs, LabOk f.lk d) :
    W C A (call (.ref 277) [.ref x]) (fun v h' => ∃ P', Ext P P' ∧ Sep C P' fr h' ∧ ∃ l vs k', v = .ref l ∧ P'.get? l = some (LO vs k') ∧ Lfs vs (f.labs.map (labelOf f.lk)) ∧ vs.length ≤ 1000) h := by
  have hf0 := hf
  obtain ⟨v, rfl, hx, hd, -, hs, ⟨o, ho, hk⟩, -, -, hr⟩ := hf
  refine (WK.w ?_)
  refine' k_def (binds := [("df", .ref v.x)]) S rm ?ho ?hcd ?hb ?hl ?hc ?h6 ?h7 ?h8 ?_
  walk_at "sides"
  intro L h1 S1 _
  walk_at "w"
  refine S1.callR (fun fr' S' => c_frame_rows rm.deeper S' hf0) fun v' h2 S2 hx9 => ?_
  obtain ⟨t, hv'⟩ := hx9
  subst hv'
  walk_at "w"
  refine ⟨fun c => ?_, fun c => ?_⟩
  · have c' : f.labs = [] := by simpa using c
    walk_at "w"
    refine w_newList S2 (fun a h3 S3 => ?_)
    walk_at "w"
    obtain ⟨P2, e2, S4, ha⟩ := S3.freeze1
    exact ⟨P2, e2, S4.sep, a, [], 0, rfl, ha, by rw [c']; exact .nil, Nat.zero_le _⟩
  · walk_at "w"
    walk_at "g"
    walk_at "w"
    refine w_ditem hk (St.ext (by assumption) _ _ ho) (strKind_is _ _ _ _) rfl ?_ (by with_unfolding_all rfl)
    walk_at "w"
    refine S2.call (fun fr' S' => c_label_texts rm.deeper S' hr hok) fun v' P2 h2 e2 S2 hx9 => ?_
    obtain ⟨l, vs, k, ev, hv, hl, hz⟩ := hx9
    subst ev
    walk_at "w"
    exact ⟨P2, e2, S2.sep, l, vs, k, rfl, hv, hl, hz⟩

theorem str_is {C : Cx} {s : Str} {v : Value} (h : (sk C).is s v = true) : ∃ t, v = .str s t := Value.isStrOf_shape h
theorem c_lacking {C : Cx} {A : Around} {P : Heap} {fr : Own} {h : Heap} {k : Str} {tk : Tok} {n : Nat} (rm : Rm A n) (S : Sep C P fr h) (hk : k = "integer" ∨ k = "character") :
    W C A (call (.ref 291) [.str k tk]) (fun v h' => Sep C P fr h' ∧ v = .none) h := by
  refine (WK.w ?_)
  refine' k_def (binds := [("kind", .str k tk)]) S rm ?ho ?hcd ?hb ?hl ?hc ?h6 ?h7 ?h8 ?_
  walk_at "sides"
  intro L h1 S1 _
  walk_at "w"
  walk_at "S"
  refine w_tin (S.sep.own _ (.head _)) (.cons _ _ (.cons _ _ (.cons _ _ .nil))) ?_
  walk_at "w"
  refine ⟨fun c => absurd c (by rcases hk with rfl | rfl <;> decide +kernel), fun c => ?_⟩
  walk_at "w"
  exact ⟨S.sep.drop, rfl⟩
theorem c_kept_attrs {C : Cx} {A : Around} {P : Heap} {fr : Own} {h : Heap} {x : Addr} {col : Col} {n : Nat} (rm : Rm A (n + 1)) (S : Sep C P fr h) (hc : ColAt C P x col) :
    W C A (call (.ref 284) [.ref x]) (fun v h' => ∃ P', Ext P P' ∧ Sep C P' fr h' ∧ AtIs C P' col.fac v) h := by
  obtain ⟨c, rfl, hd, -, hx, -, ha⟩ := hc
  refine (WK.w ?_)
  refine' k_def (binds := [("column", .ref c.x)]) S rm ?ho ?hcd ?hb ?hl ?hc ?h6 ?h7 ?h8 ?_
  walk_at "sides"
  intro L h1 S1 _
  rcases ha with ⟨hf, ha⟩ | ⟨hf, da, vl, vc, o, ha, hs, ho, hk, hpl, hpc⟩
  · unfold CV.obj at hd
    rw [ha] at hd
    walk_at "w"
    walk_at "g"
    walk_at "wd"
    exact ⟨P, Ext.rfl, S1.sep, .inl ⟨hf, rfl⟩⟩
  · unfold CV.obj at hd
    rw [ha] at hd
    walk_at "w"
    walk_at "g"
    walk_at "wd"
    refine w_newdict S1 (fun D h2 hD S2 => ?_)
    walk_at "w"
    refine w_for ?_
    walk_at "w"
    walk_at "g"
    walk_at "S"
    refine w_iter_keys S hs hk (S.ext _ _ ho) (fun I oI h4 ep ok it y S4 e4 => ?_)
    refine WF.inv it S4 ok rm.deeper.handled (.name _ _) (fun i P' fr' m' => m' "column" = some (.ref c.x) ∧ m' "kept" = some (.ref D) ∧ ∃ o', fr' = (D, o') :: fr ∧ DOb (sk C) o' (([("levels", .ref vl), ("class", .ref vc)] : List (Str × Value)).take i))
      ⟨by with_unfolding_all rfl, by with_unfolding_all rfl, _, rfl, DOb.nil⟩ ?_ ?_ ?_
    · intro i P' fr' m' G h' e _ S'
      exact y h' (S'.ext _ _ (e _ _ ho))
    · rintro i v P' fr' m' G h' hi ⟨k, v', hkv, hki⟩ e ⟨m1, m2, o', rfl, hD'⟩ S'
      obtain ⟨t, rfl⟩ := str_is hki
      have hx' := e _ _ hx
      have hd' := e _ _ hd
      have hi' : i = 0 ∨ i = 1 := by simp at hi; (first | lia | omega)
      rcases hi' with rfl | rfl
      · cases hkv
        refine Gn.in fun _ _ => ?_
        refine w_asg ?_
        walk_at "w"
        walk_at "S"
        refine w_tnotin (S.sep.own _ (.head _)) (.cons _ _ (.cons _ _ (.cons _ _ .nil))) ?_
        walk_at "wd"
        walk_at "g"
        walk_at "w"
        refine w_ditem hk (S.ext _ _ (e _ _ ho)) (strKind_is _ _ _ _) rfl ?_ (by with_unfolding_all rfl)
        walk_at "w"
        refine w_dset (i := 1) S rfl hD' (strKind_is _ _ _ _) (Nat.le_of_ble_eq_true rfl) (fun h3 o3 hD3 S3 => ?_)
        walk_at "w"
        refine ⟨.inl rfl, _, (D, o3) :: fr, _, Ext.rfl, ?_, S3.drop⟩
        exact ⟨by with_unfolding_all exact m1, by with_unfolding_all exact m2, o3, rfl, hD3⟩
      · cases hkv
        refine Gn.in fun _ _ => ?_
        refine w_asg ?_
        walk_at "w"
        walk_at "S"
        refine w_tnotin (S.sep.own _ (.head _)) (.cons _ _ (.cons _ _ (.cons _ _ .nil))) ?_
        walk_at "wd"
        walk_at "g"
        walk_at "w"
        refine w_ditem hk (S.ext _ _ (e _ _ ho)) (strKind_is _ _ _ _) rfl ?_ (by with_unfolding_all rfl)
        walk_at "w"
        refine w_dset (i := 1) S rfl hD' (strKind_is _ _ _ _) (Nat.le_of_ble_eq_true rfl) (fun h3 o3 hD3 S3 => ?_)
        walk_at "w"
        refine ⟨.inl rfl, _, (D, o3) :: fr, _, Ext.rfl, ?_, S3.drop⟩
        exact ⟨by with_unfolding_all exact m1, by with_unfolding_all exact m2, o3, rfl, hD3⟩
    · rintro P' fr' m' h' e ⟨m1, m2, o', rfl, hD'⟩ S'
      walk_at "w"
      refine w_dlen hD hD' (S'.sep.own _ (.head _)) (Nat.le_of_ble_eq_true rfl) (fun t => ?_)
      walk_at "wd"
      obtain ⟨P2, e2, S3, ho2⟩ := S'.freeze1
      exact ⟨P2, e.trans e2, S3.sep, .inr ⟨hf, D, vl, vc, o', rfl, hD, ho2, hD', hpl.ext (e.trans e2), hpc.ext (e.trans e2)⟩⟩

set_option maxHeartbeats 400000
def plD : Option Nat → PyData
  | none => .none
  | some n => .int n
def pickD (items : List PyData) : Option Nat → PyData
  | none => .none
  | some n => (items[n]?).getD .none
theorem tk1 {α β : Type} (f : α → β) (l : List α) (i : Nat) (h : i < l.length) : (l.take (i + 1)).map f = (l.take i).map f ++ [f l[i]] := by
  rw [← List.take_append_getElem h, List.map_append]; rfl
theorem c_pick_items {C : Cx} {A : Around} {P : Heap} {fr : Own} {h : Heap} {x pl : Addr} {col : Col} {pvs : List Value} {ps : List (Option Nat)} {pn n : Nat} (rm : Rm A (n + 2)) (S : Sep C P fr h) (hc : ColAt C P x col) (hk : col.k = "integer" ∨ col.k = "character")
    (hp : P.get? pl = some (LO pvs pn)) (hl : Lfs pvs (ps.map plD)) (hz : pvs.length ≤ 1000) :
    W C A (call (.ref 298) [.ref x, .ref pl]) (fun v h' => ∃ P' own, Ext P P' ∧ Sep C P' (own ++ fr) h' ∧ ∃ c : CV, v = .ref c.x ∧ own = [(c.dx, c.obj C)] ∧ ColIs C P' c ⟨col.k, ps.map (pickD col.items), col.fac⟩) h := by
  have hc0 := hc
  obtain ⟨c, rfl, hd, ek, hx, ⟨vs, vn, hv, hvl, hvz⟩, ha⟩ := hc
  have hpl : pvs.length = ps.length := by simpa using hl.length
  refine (WK.w ?_)
  refine' k_def (binds := [("column", .ref c.x), ("places", .ref pl)]) S rm ?ho ?hcd ?hb ?hl ?hc ?h6 ?h7 ?h8 ?_
  walk_at "sides"
  intro L h1 S1 _
  walk_at "w"
  refine w_newList S1 (fun D h2 S2 => ?_)
  walk_at "w"
  walk_at "g"
  walk_at "w"
  refine w_len (St.ext (by assumption) _ _ hv) (by (first | lia | omega)) (fun tc => ?_)
  walk_at "w"
  refine w_for ?_
  walk_at "w"
  walk_at "S"
  refine w_iter_list S (S.ext _ _ hp) (fun I oI h4 ok it S4 e4 => ?_)
  refine WF.inv it S4 ok rm.deeper.handled (.name _ _) (fun i P' fr' m' => m' "column" = some (.ref c.x) ∧ m' "items" = some (.ref D) ∧ m' "count" = some (.int vs.length tc) ∧ ∃ ys n', fr' = (D, LO ys n') :: fr ∧ ys.length = i ∧ Lfs ys ((ps.take i).map (pickD col.items)))
      ⟨by with_unfolding_all rfl, by with_unfolding_all rfl, by with_unfolding_all rfl, _, _, rfl, rfl, .nil⟩ ?_ ?_ ?_
  · intro i P' fr' m' G h' e _ S'
    exact isList_of (S'.ext _ _ (e _ _ hp))
  · rintro i v P' fr' m' G h' hi hvi e ⟨m1, m2, m3, ys, n', rfl, hyl, hys⟩ S'
    have hi' : i < ps.length := by (first | lia | omega)
    obtain ⟨u, hu, lf⟩ := hl.get (i := i) (d := plD ps[i]) (by simp [hi'])
    rw [hvi] at hu
    cases hu
    have hx' := e _ _ hx
    have hd' := e _ _ hd
    have tk : (ps.take (i + 1)).map (pickD col.items) = (ps.take i).map (pickD col.items) ++ [pickD col.items ps[i]] := tk1 _ _ _ hi'
    rw [tk]
    generalize ps[i] = p at lf
    refine Gn.in fun _ _ => ?_
    refine w_asg ?_
    cases p with
    | none =>
      cases lf
      walk_at "wd"
      walk_at "S"
      refine w_m_append (S.sep.own _ (.head _)) ?_
      walk_at "w"
      walk_at "g"
      walk_at "w"
      refine S.callR (fun fr' S' => c_lacking rm.deeper S' (by rw [ek]; exact hk)) fun v' h5 S5 ev => ?_
      subst ev
      walk_at "w"
      refine w_append (i := 0) S5 rfl (by rw [sizeLine_eq]; (first | lia | omega)) (fun h6 n6 S6 => ?_)
      walk_at "w"
      refine ⟨rfl, ?_⟩
      walk_at "w"
      refine ⟨.inl rfl, _, (D, LO (ys ++ [Value.none]) n6) :: fr, _, Ext.rfl, ?_, S6⟩
      exact ⟨by with_unfolding_all exact m1, by with_unfolding_all exact m2, by with_unfolding_all exact m3, _, n6, rfl, by simp [hyl], hys.append (.cons .none .nil)⟩
    | some k =>
      cases lf with
      | int _ t =>
      walk_at "wd"
      refine ⟨fun cc => ?_, fun cc => ?_⟩
      · walk_at "wd"
        walk_at "S"
        have ck : vs.length ≤ k := by simpa using cc
        refine w_m_append (S.sep.own _ (.head _)) ?_
        walk_at "w"
        walk_at "g"
        walk_at "w"
        refine S.callR (fun fr' S' => c_lacking rm.deeper S' (by rw [ek]; exact hk)) fun v' h5 S5 ev => ?_
        subst ev
        walk_at "w"
        refine w_append (i := 0) S5 rfl (by rw [sizeLine_eq]; (first | lia | omega)) (fun h6 n6 S6 => ?_)
        walk_at "w"
        refine ⟨rfl, ?_⟩
        walk_at "w"
        refine ⟨.inl rfl, _, (D, LO (ys ++ [Value.none]) n6) :: fr, _, Ext.rfl, ?_, S6⟩
        have e0 : pickD col.items (some k) = .none := by
          show (col.items[k]?).getD .none = _
          rw [List.getElem?_eq_none (by rw [← hvl.length]; exact ck)]; rfl
        exact ⟨by with_unfolding_all exact m1, by with_unfolding_all exact m2, by with_unfolding_all exact m3, _, n6, rfl, by simp [hyl], hys.append (.cons (by rw [e0]; exact .none) .nil)⟩
      · walk_at "wd"
        walk_at "S"
        have ck : k < vs.length := by simpa using cc
        have ck' : k < col.items.length := by rw [← hvl.length]; exact ck
        obtain ⟨u, hu, lf⟩ := hvl.get (i := k) (d := col.items[k]) (by simp [ck'])
        refine w_m_append (S.sep.own _ (.head _)) ?_
        walk_at "w"
        walk_at "g"
        walk_at "w"
        refine w_item (S.ext _ _ (e _ _ hv)) (by (first | lia | omega)) (by (first | lia | omega)) (by simpa using hu) ?_
        walk_at "w"
        refine w_append (i := 0) S rfl (by rw [sizeLine_eq]; (first | lia | omega)) (fun h6 n6 S6 => ?_)
        walk_at "w"
        refine ⟨rfl, ?_⟩
        walk_at "w"
        refine ⟨.inl rfl, _, (D, LO (ys ++ [u]) n6) :: fr, _, Ext.rfl, ?_, S6⟩
        have e0 : pickD col.items (some k) = col.items[k] := by
          show (col.items[k]?).getD .none = _
          rw [List.getElem?_eq_getElem ck']; rfl
        exact ⟨by with_unfolding_all exact m1, by with_unfolding_all exact m2, by with_unfolding_all exact m3, _, n6, rfl, by simp [hyl], hys.append (.cons (by rw [e0]; exact lf) .nil)⟩
  · rintro P' fr' m' h' e ⟨m1, m2, m3, ys, n', rfl, hyl, hys⟩ S'
    have hx' := e _ _ hx
    have hd' := e _ _ hd
    walk_at "w"
    walk_at "g"
    walk_at "w"
    refine S'.call (fun fr' S' => c_kept_attrs rm.deeper S' (hc0.ext e)) fun a P2 h5 e2 S5 ha' => ?_
    walk_at "w"
    refine w_new rm.deeper S5 (.inr rfl) (fun y dy P3 t1 t2 t3 t4 t5 h6 e3 hy S6 => ?_)
    walk_at "w"
    obtain ⟨P4, e4, S7, hD⟩ := (S6.perm (List.Perm.swap ..)).freeze1
    rw [List.take_of_length_le (by (first | lia | omega))] at hys
    exact ⟨P4, _, ((e.trans e2).trans e3).trans e4, S7.sep, ⟨y, dy, D, t1, t2, t3, t4, t5, c.tk, c.k, a, .bool false, .bool false⟩, rfl, rfl, ek, e4 _ _ hy, ⟨ys, n', hD, hys, by (first | lia | omega)⟩, (ha'.ext e3).ext e4⟩

set_option maxHeartbeats 400000
def UniqOf (names us : List Str) : Prop :=
  us.length = names.length ∧ us.Nodup ∧ ∀ (j : Nat) (n u : Str), names[j]? = some n → us[j]? = some u → u = n ∨ ∃ k : Nat, 1 ≤ k ∧ k < 10 ^ 9 ∧ u = n ++ "." ++ num k
structure MU (names : List Str) (i : Nat) (us T U : List Str) (kC : List (Str × Value)) : Prop where
  len : us.length = i
  nd : us.Nodup
  shape : ∀ (j : Nat) (n u : Str), names[j]? = some n → us[j]? = some u → u = n ∨ ∃ k : Nat, 1 ≤ k ∧ k < 10 ^ 9 ∧ u = n ++ "." ++ num k
  all : ∀ s ∈ names, s ∈ T
  ut : ∀ s ∈ U, s ∈ T
  su : ∀ s ∈ us, s ∈ U
  tl : T.length ≤ names.length + i
  ul : U.length ≤ i
  cl : kC.length ≤ i
  cs : ∀ p ∈ kC, ∃ (c : Nat) (t : Tok), p.2 = .int c t ∧ 1 ≤ c ∧ c ≤ 1 + i * 300
theorem MU.fresh {names us T T' U U' : List Str} {i : Nat} {kC kC' : List (Str × Value)} {nm u : Str} (x : MU names i us T U kC) (hn : names[i]? = some nm)
    (hu : u = nm ∨ ∃ k : Nat, 1 ≤ k ∧ k < 10 ^ 9 ∧ u = nm ++ "." ++ num k) (hU : u ∉ U) (eT : ∀ s, s ∈ T' ↔ s = u ∨ s ∈ T) (eU : ∀ s, s ∈ U' ↔ s = u ∨ s ∈ U) (lT : T'.length ≤ names.length + (i + 1)) (lU : U'.length ≤ i + 1)
    (lC : kC'.length ≤ i + 1) (cC : ∀ p ∈ kC', p ∈ kC ∨ ∃ (c : Nat) (t : Tok), p.2 = .int c t ∧ 1 ≤ c ∧ c ≤ 1 + (i + 1) * 300) : MU names (i + 1) (us ++ [u]) T' U' kC' where
  len := by simp [x.len]
  nd := by
    rw [List.nodup_append]
    refine ⟨x.nd, by simp, fun a ha b hb e => ?_⟩
    rw [List.mem_singleton.mp hb] at e
    subst e
    exact hU (x.su _ ha)
  shape := by
    intro j n v hj hv
    by_cases h : j < i
    · rw [List.getElem?_append_left (by rw [x.len]; exact h)] at hv
      exact x.shape j n v hj hv
    · have hlt := (List.getElem?_eq_some_iff.mp hv).1
      have : j = i := by simp [x.len] at hlt; (first | lia | omega)
      subst this
      rw [hn] at hj
      cases hj
      rw [List.getElem?_append_right (by rw [x.len]; exact Nat.le_refl _)] at hv
      simp [x.len] at hv
      subst hv
      exact hu
  all := fun s hs => (eT s).mpr (.inr (x.all s hs))
  ut := fun s hs => (eT s).mpr (((eU s).mp hs).imp id (x.ut s))
  su := fun s hs => (eU s).mpr ((List.mem_append.mp hs).elim (fun h => .inr (x.su s h)) fun h => .inl (List.mem_singleton.mp h))
  tl := lT
  ul := lU
  cl := lC
  cs := fun p hp => (cC p hp).elim (fun h => by
    obtain ⟨c, t, e, c1, c2⟩ := x.cs p h
    exact ⟨c, t, e, c1, by (first | lia | omega)⟩) id

theorem c_make_unique {C : Cx} {A : Around} {P : Heap} {fr : Own} {h : Heap} {l : Addr} {names : List Str} {vs : List Value} {nn n : Nat} {ts : Tok} (rm : Rm A (n + 1)) (S : Sep C P fr h)
    (hp : P.get? l = some (LO vs nn)) (hl : Lfs vs (names.map .str)) (hz : vs.length ≤ 100) (hlen : ∀ s ∈ names, s.length ≤ 100) :
    W C A (call (.ref 253) [.ref l, .str "." ts]) (fun v h' => ∃ P', Ext P P' ∧ Sep C P' fr h' ∧ ∃ l ys k us, v = .ref l ∧ P'.get? l = some (LO ys k) ∧ Lfs ys (us.map .str) ∧ UniqOf names us ∧ ys.length ≤ 1000) h := by
  have hnl : vs.length = names.length := by simpa using hl.length
  refine (WK.w ?_)
  refine' k_def (binds := [("names", .ref l), ("sep", .str "." ts)]) S rm ?ho ?hcd ?hb ?hl ?hc ?h6 ?h7 ?h8 ?_
  walk_at "sides"
  intro L h1 S1 _
  walk_at "w"
  refine w_newdict S1 (fun T h2 hT S2 => ?_)
  walk_at "w"
  refine w_for ?_
  walk_at "w"
  walk_at "S"
  refine w_iter_list S (S.ext _ _ hp) (fun I oI h4 ok it S4 e4 => ?_)
  refine WF.inv it S4 ok rm.deeper.handled (.name _ _) (fun i P' fr' m' => m' "names" = some (.ref l) ∧ m' "sep" = some (.str "." ts) ∧ m' "taken" = some (.ref T) ∧ ∃ oT kT, fr' = (T, oT) :: fr ∧ DOb (sk C) oT kT ∧ (∀ s ∈ names.take i, s ∈ kT.map (·.1)) ∧ kT.length ≤ i)
      ⟨by with_unfolding_all rfl, by with_unfolding_all rfl, by with_unfolding_all rfl, _, _, rfl, DOb.nil, (fun s hs => by simp at hs), Nat.le_refl _⟩ ?_ ?_ ?_
  · intro i P' fr' m' G h' e _ S'
    exact isList_of (S'.ext _ _ (e _ _ hp))
  · rintro i v P' fr' m' G h' hi hvi e ⟨m1, m2, m3, oT, kT, rfl, hd, hk, hkl⟩ S'
    have hi' : i < names.length := by (first | lia | omega)
    obtain ⟨u, hu, lf⟩ := hl.get (i := i) (d := .str names[i]) (by simp [hi'])
    rw [hvi] at hu
    cases hu
    cases lf with
    | str _ t =>
    refine Gn.in fun _ _ => ?_
    refine w_asg ?_
    walk_at "w"
    walk_at "S"
    refine w_dset (i := 0) S rfl hd (strKind_is _ _ _ _) (by rw [sizeLine_eq]; (first | lia | omega)) (fun h3 o3 hD3 S3 => ?_)
    walk_at "w"
    refine ⟨.inl rfl, _, (T, o3) :: fr, _, Ext.rfl, ?_, S3⟩
    refine ⟨by with_unfolding_all exact m1, by with_unfolding_all exact m2, by with_unfolding_all exact m3, _, _, rfl, hD3, fun s hs => ?_, Nat.le_trans stored_len (by (first | lia | omega))⟩
    rw [mem_stored]
    rw [← List.take_append_getElem hi'] at hs
    rcases List.mem_append.mp hs with hs | hs
    · exact .inr (hk s hs)
    · exact .inl (List.mem_singleton.mp hs)
  rintro P1 fr' m' h5 e1 ⟨m1, m2, m3, oT, kT, rfl, hdT, hkT, hkTl⟩ S5
  rw [List.take_of_length_le (by (first | lia | omega))] at hkT
  walk_at "w"
  refine w_newdict S5 (fun U h6 hU S6 => ?_)
  walk_at "w"
  walk_at "S"
  refine w_newdict S (fun Cn h7 hC S7 => ?_)
  walk_at "w"
  walk_at "S"
  refine w_newList S (fun F h8 S8 => ?_)
  walk_at "w"
  refine w_for ?_
  walk_at "w"
  walk_at "S"
  refine w_iter_list S (S.ext _ _ (e1 _ _ hp)) (fun I oI h9 ok it S9 e9 => ?_)
  refine WF.inv it S9 ok rm.deeper.handled (.name _ _) (fun i P' fr' m' => m' "names" = some (.ref l) ∧ m' "sep" = some (.str "." ts) ∧ m' "taken" = some (.ref T) ∧ m' "seen" = some (.ref U) ∧ m' "counts" = some (.ref Cn) ∧ m' "found" = some (.ref F) ∧
      ∃ ys nF oC kC oU kU oT kT us, fr' = (F, LO ys nF) :: (Cn, oC) :: (U, oU) :: (T, oT) :: fr ∧ DOb (sk C) oC kC ∧ DOb (sk C) oU kU ∧ DOb (sk C) oT kT ∧ Lfs ys (us.map .str) ∧ MU names i us (kT.map (·.1)) (kU.map (·.1)) kC) ?_ ?_ ?_ ?_
  · refine ⟨by with_unfolding_all exact m1, by with_unfolding_all exact m2, by with_unfolding_all exact m3, by with_unfolding_all rfl, by with_unfolding_all rfl, by with_unfolding_all rfl, _, _, _, _, _, _, _, _, [], rfl, DOb.nil, DOb.nil, hdT, .nil, ?_⟩
    exact ⟨rfl, List.nodup_nil, fun j n u _ hu => (by simp at hu), hkT, fun s hs => (by cases hs), fun s hs => (by cases hs), (by simp; (first | lia | omega)), Nat.le_refl _, Nat.le_refl _, fun p hp => (by cases hp)⟩
  · intro i P' fr' m' G h' e _ S'
    exact isList_of (S'.ext _ _ (e _ _ (e1 _ _ hp)))
  · rintro i v P' fr' m' G h' hi hvi e ⟨m1, m2, m3, m4, m5, m6, ys, nF, oC, kC, oU, kU, oT, kT, us, rfl, dC, dU, dT, hys, mu⟩ S'
    have hi' : i < names.length := by (first | lia | omega)
    obtain ⟨u, hu, lf⟩ := hl.get (i := i) (d := .str names[i]) (by simp [hi'])
    rw [hvi] at hu
    cases hu
    cases lf with
    | str _ t =>
    have hnm : names[i]? = some names[i] := List.getElem?_eq_getElem hi'
    have hnl' := hlen _ (List.getElem_mem hi')
    have hus := hys.length
    simp only [List.length_map] at hus
    have l1 := mu.len
    have l2 := mu.tl
    have l3 := mu.ul
    have l4 := mu.cl
    simp only [List.length_map] at l2 l3
    generalize names[i] = nm at *
    refine Gn.in fun _ _ => ?_
    refine w_asg ?_
    walk_at "w"
    walk_at "S"
    refine w_dnotin hU dU (S.sep.own _ (.tail _ (.tail _ (.head _)))) (strKind_is _ _ _ _) ?_
    rw [any_key]
    walk_at "w"
    refine ⟨fun c => ?_, fun c => ?_⟩
    · have c' : nm ∉ kU.map (·.1) := by simpa using c
      walk_at "w"
      refine w_dset (i := 2) S rfl dU (strKind_is _ _ _ _) (by rw [sizeLine_eq]; (first | lia | omega)) (fun h10 oU2 dU2 S10 => ?_)
      walk_at "w"
      refine w_m_append (S10.sep.own _ (.head _)) ?_
      walk_at "w"
      refine w_append (i := 0) S10 rfl (by rw [sizeLine_eq]; (first | lia | omega)) (fun h11 n11 S11 => ?_)
      walk_at "w"
      refine ⟨rfl, ?_⟩
      walk_at "w"
      refine ⟨.inr rfl, _, (F, LO (ys ++ [Value.str nm t]) n11) :: (Cn, oC) :: (U, oU2) :: (T, oT) :: fr, _, Ext.rfl, ?_, S11⟩
      refine ⟨by with_unfolding_all exact m1, by with_unfolding_all exact m2, by with_unfolding_all exact m3, by with_unfolding_all exact m4, by with_unfolding_all exact m5, by with_unfolding_all exact m6, _, _, _, _, _, _, _, _, us ++ [nm], rfl, dC, dU2, dT, by rw [List.map_append]; exact hys.append (.cons (.str _ _) .nil), ?_⟩
      refine mu.fresh hnm (.inl rfl) c' (fun s => ⟨.inr, fun o => o.elim (fun e => e ▸ mu.all _ (List.mem_of_getElem? hnm)) id⟩) (fun s => mem_stored) ?_ ?_ ?_ (fun p hp => .inl hp)
      · simp only [List.length_map]; (first | lia | omega)
      · simp only [List.length_map]; exact Nat.le_trans stored_len (by (first | lia | omega))
      · (first | lia | omega)
    · have c' : nm ∈ kU.map (·.1) := by simpa using c
      walk_at "w"
      refine w_m_dget dC (S.sep.own _ (.tail _ (.head _))) ?_
      walk_at "w"
      refine w_dget2 hC dC (S.sep.own _ (.tail _ (.head _))) (strKind_is _ _ _ _) ?_
      rename_i t1
      obtain ⟨c0, t0, e0, hc1, hc2⟩ : ∃ (c : Nat) (t : Tok), (valueAt kC nm).getD (.int 1 t1) = .int c t ∧ 1 ≤ c ∧ c ≤ 1 + i * 300 := by
        cases hv : valueAt kC nm with
        | none => exact ⟨1, t1, rfl, Nat.le_refl _, by (first | lia | omega)⟩
        | some v =>
          obtain ⟨c, t, e, y⟩ := mu.cs _ (valueAt_mem hv)
          exact ⟨c, t, e, y⟩
      rw [e0]
      walk_at "w"
      walk_at "S"
      obtain ⟨mm, hm1⟩ : ∃ mm : Str → Option Value, (fun y => if y = (Str.ofString "name") then some (Value.str nm t) else m' y) = mm := ⟨_, rfl⟩
      have f1 : mm "names" = some (.ref l) := by rw [← hm1]; with_unfolding_all exact m1
      have f2 : mm "sep" = some (.str "." ts) := by rw [← hm1]; with_unfolding_all exact m2
      have f3 : mm "taken" = some (.ref T) := by rw [← hm1]; with_unfolding_all exact m3
      have f4 : mm "seen" = some (.ref U) := by rw [← hm1]; with_unfolding_all exact m4
      have f5 : mm "counts" = some (.ref Cn) := by rw [← hm1]; with_unfolding_all exact m5
      have f6 : mm "found" = some (.ref F) := by rw [← hm1]; with_unfolding_all exact m6
      have f7 : mm "name" = some (.str nm t) := by rw [← hm1]; with_unfolding_all rfl
      have hml := meas_le (kT.map (·.1)) (nm ++ "." : Str) c0
      simp only [List.length_map] at hml
      refine w_while (fun d h' => ∃ (c : Nat) (tc : Tok), St C P' ((F, LO ys nF) :: (Cn, oC) :: (U, oU) :: (T, oT) :: fr ++ G) L (fun y => if y = (Str.ofString "number") then some (.int c tc) else mm y) h' ∧ 1 ≤ c ∧ d = meas (kT.map (·.1)) (nm ++ "." : Str) c ∧ c + d ≤ c0 + kT.length) ?_ _ ⟨c0, t0, (by rw [← hm1]; exact S), hc1, rfl, by (first | lia | omega)⟩
      rintro d h12 ⟨k, tk, S12, hk1, rfl, hk2⟩
      have hk9 : k < 10 ^ 9 := by (first | lia | omega)
      have hnl9 := num_len hk9
      walk_at "w"
      have hdot : (Str.ofString ".").length = 1 := by decide +kernel
      refine w_adds (by rw [sizeLine_eq]; (first | lia | omega)) (fun tx => ?_)
      walk_at "w"
      refine w_str_int (by (first | lia | omega)) (fun ty => ?_)
      walk_at "w"
      refine w_adds (by rw [PySem.Str.length_append, sizeLine_eq]; unfold num at hnl9; (first | lia | omega)) (fun tz => ?_)
      walk_at "w"
      refine w_din hT dT (S12.sep.own _ (.tail _ (.tail _ (.tail _ (.head _))))) (strKind_is _ _ _ _) ?_
      rw [any_key]
      walk_at "w"
      refine ⟨fun c => ?_, fun c => ?_⟩
      · have c'' : nm ++ "." ++ num k ∈ kT.map (·.1) := of_decide_eq_true c
        have hlt := meas_lt c''
        walk_at "w"
        walk_at "S"
        rw [upd_upd] at S
        exact ⟨.inl rfl, _, hlt, k + 1, _, S, by (first | lia | omega), rfl, by (first | lia | omega)⟩
      · have c'' : nm ++ "." ++ num k ∉ kT.map (·.1) := of_decide_eq_false c
        walk_at "w"
        refine w_adds (by rw [sizeLine_eq]; (first | lia | omega)) (fun tx => ?_)
        walk_at "w"
        refine w_str_int (by (first | lia | omega)) (fun ty => ?_)
        walk_at "w"
        refine w_adds (by rw [PySem.Str.length_append, sizeLine_eq]; unfold num at hnl9; (first | lia | omega)) (fun tz => ?_)
        walk_at "w"
        walk_at "S"
        refine w_dset (i := 1) S rfl dC (strKind_is _ _ _ _) (by rw [sizeLine_eq]; (first | lia | omega)) (fun h13 oC2 dC2 S13 => ?_)
        walk_at "w"
        refine w_dset (i := 3) S13 rfl dT (strKind_is _ _ _ _) (by rw [sizeLine_eq]; (first | lia | omega)) (fun h14 oT2 dT2 S14 => ?_)
        walk_at "w"
        refine w_dset (i := 2) S14 rfl dU (strKind_is _ _ _ _) (by rw [sizeLine_eq]; (first | lia | omega)) (fun h15 oU2 dU2 S15 => ?_)
        walk_at "w"
        refine w_m_append (S15.sep.own _ (.head _)) ?_
        walk_at "w"
        refine w_append (i := 0) S15 rfl (by rw [sizeLine_eq]; (first | lia | omega)) (fun h16 n16 S16 => ?_)
        walk_at "w"
        refine ⟨rfl, ?_⟩
        walk_at "w"
        refine ⟨.inl rfl, _, (F, LO (ys ++ [Value.str (nm ++ "." ++ num k) tz]) n16) :: (Cn, oC2) :: (U, oU2) :: (T, oT2) :: fr, _, Ext.rfl, ?_, S16⟩
        refine ⟨by with_unfolding_all exact f1, by with_unfolding_all exact f2, by with_unfolding_all exact f3, by with_unfolding_all exact f4, by with_unfolding_all exact f5, by with_unfolding_all exact f6, _, _, _, _, _, _, _, _, us ++ [nm ++ "." ++ num k], rfl, dC2, dU2, dT2, by rw [List.map_append]; exact hys.append (.cons (.str _ _) .nil), ?_⟩
        refine mu.fresh hnm (.inr ⟨k, hk1, hk9, rfl⟩) (fun z => c'' (mu.ut _ z)) (fun s => mem_stored) (fun s => mem_stored) ?_ ?_ ?_ (fun p hp => ?_)
        · simp only [List.length_map]; exact Nat.le_trans stored_len (by (first | lia | omega))
        · simp only [List.length_map]; exact Nat.le_trans stored_len (by (first | lia | omega))
        · exact Nat.le_trans stored_len (by (first | lia | omega))
        · rcases stored_mem hp with hp | hp
          · exact .inr ⟨k + 1, _, hp, by (first | lia | omega), by (first | lia | omega)⟩
          · exact .inl hp
  · rintro P' fr' m' h' e ⟨m1, m2, m3, m4, m5, m6, ys, nF, oC, kC, oU, kU, oT, kT, us, rfl, dC, dU, dT, hys, mu⟩ S'
    walk_at "w"
    obtain ⟨P2, e2, S3, ho2⟩ := S'.freeze (own := [(F, LO ys nF), (Cn, oC), (U, oU), (T, oT)])
    have l0 := hys.length
    simp only [List.length_map] at l0
    have l1 := mu.len
    exact ⟨P2, (e1.trans e).trans e2, S3.sep, F, ys, nF, us, rfl, ho2 _ (.head _), hys, ⟨by (first | lia | omega), mu.nd, mu.shape⟩, by (first | lia | omega)⟩

set_option maxHeartbeats 400000
def labT (k : Str) (d : PyData) : Str := match labelOf k d with
  | .str s => s
  | _ => ""
theorem LabOk.txt {k : Str} {d : PyData} (h : LabOk k d) : labelOf k d = .str (labT k d) := by
  rcases h with ⟨rfl, i, rfl, hi⟩ | ⟨rfl, s, rfl⟩ <;> rfl
structure FOk (f : Fm) : Prop where
  cols : ∀ c ∈ f.cols, c.k = "integer" ∨ c.k = "character"
  labs : ∀ d ∈ f.labs, LabOk f.lk d
  short : ∀ d ∈ f.labs, (labT f.lk d).length ≤ 100
def Good (n : Nat) (ps : List (Option Nat)) : Prop := (∀ p ∈ ps, ∃ k, p = some k ∧ k < n) ∧ ps.Nodup
theorem Good.nil {n : Nat} : Good n [] := ⟨fun _ h => by simp at h, List.nodup_nil⟩
theorem Good.snoc {n : Nat} {ps : List (Option Nat)} {p : Option Nat} : Good n (ps ++ [p]) ↔ Good n ps ∧ (∃ k, p = some k ∧ k < n) ∧ p ∉ ps := by
  unfold Good
  constructor
  · rintro ⟨h1, h2⟩
    rw [List.nodup_append] at h2
    exact ⟨⟨fun q hq => h1 q (List.mem_append_left _ hq), h2.1⟩, h1 p (by simp), fun q => h2.2.2 p q p (by simp) rfl⟩
  · rintro ⟨⟨h1, h2⟩, h3, h4⟩
    refine ⟨fun q hq => ?_, ?_⟩
    · rcases List.mem_append.mp hq with hq | hq
      · exact h1 q hq
      · rw [List.mem_singleton.mp hq]; exact h3
    · rw [List.nodup_append]
      exact ⟨h2, by simp, fun a ha b hb e => h4 (by rw [List.mem_singleton.mp hb] at e; exact e ▸ ha)⟩
def foundT (texts : List Str) : Option Nat → Str
  | none => "NA"
  | some k => (texts[k]?).getD "NA"
abbrev nk (C : Cx) := nkKind C.prog C.w
theorem dec_true {p : Prop} {i : Decidable p} (h : @decide p i = true) : p := of_decide_eq_true h
theorem dec_false {p : Prop} {i : Decidable p} (h : @decide p i = false) : ¬ p := of_decide_eq_false h
theorem nk_some {C : Cx} {k : Nat} {t : Tok} : (nk C).is ((some k : Option Nat).map Int.ofNat) (.int k t) = true := beq_self_eq_true (k : Int)
abbrev nkOf (p : Option Nat) : Option Int := p.map Int.ofNat
theorem nkOf_inj {p q : Option Nat} (h : nkOf p = nkOf q) : p = q := by
  cases p with
  | none => cases q with
    | none => rfl
    | some b => cases h
  | some a => cases q with
    | none => cases h
    | some b =>
      have : (a : Int) = b := by simpa [nkOf] using h
      rw [show a = b by (first | lia | omega)]
def PickL (f : Fm) (ps : List (Option Nat)) (k : Str) (labs : List PyData) : Prop :=
  (Good f.labs.length ps ∧ k = f.lk ∧ labs = ps.map (pickD f.labs)) ∨
  (¬ Good f.labs.length ps ∧ k = "character" ∧ ∃ us : List Str, labs = us.map .str ∧ UniqOf (ps.map (foundT (f.labs.map (labT f.lk)))) us)
theorem Rm.up {A : Around} {n m : Nat} (r : Rm A n) (h : m ≤ n := by (first | lia | omega)) : Rm A m := r.le h
theorem c_picked_labels {C : Cx} {A : Around} {P : Heap} {fr : Own} {h : Heap} {x pl : Addr} {f : Fm} {pvs : List Value} {ps : List (Option Nat)} {pn n : Nat} (rm : Rm A (n + 4)) (S : Sep C P fr h) (hf : FrameAt C P x f) (hok : FOk f)
    (hp : P.get? pl = some (LO pvs pn)) (hl : Lfs pvs (ps.map plD)) (hz : pvs.length ≤ 100) :
    W C A (call (.ref 303) [.ref x, .ref pl]) (fun v h' => ∃ P', Ext P P' ∧ Sep C P' fr h' ∧ ∃ rx k labs, v = .ref rx ∧ Plain C P' rx k labs ∧ PickL f ps k labs) h := by
  have hf0 := hf
  obtain ⟨v, rfl, hx, hd, -, hs, ⟨o, ho, hk⟩, -, -, ⟨⟨cx, cdx, cit, t1, t2, t3, t4, t5, tk, ck, ca, cs, cl⟩, ex, ek, ea, hx', hd', vs, nn, hv, hvl, hvz⟩⟩ := hf
  dsimp only at ex ek ea hx' hd' hv
  subst ex; subst ek; subst ea
  have hpl : pvs.length = ps.length := by simpa using hl.length
  refine (WK.w ?_)
  refine' k_defC (binds := [("df", .ref v.x), ("places", .ref pl)]) S rm ?ho ?hcd ?hb ?hl ?hc ?h6 ?h7 ?h8 ?_
  walk_at "sidesC"
  intro L h1 cells S1 _ Y
  obtain ⟨o1, rfl, d1⟩ := CellsAre.one Y
  replace S1 : St C P ((L + 1, o1) :: fr) L (bindL (fun x => if x = "labels" then some NameKind.cell else some NameKind.local) [("df", .ref v.x), ("places", .ref pl)] fun _ => none) h1 := by with_unfolding_all exact S1
  replace d1 : o1.data = .cell none := d1.trans (by with_unfolding_all rfl)
  walk_at "w"
  walk_at "g"
  walk_at "w"
  refine w_ditem (v := .ref v.rx) hk (S1.ext _ _ ho) (strKind_is _ _ _ _) rfl ?_ (by with_unfolding_all rfl)
  refine w_st_cell (i := 0) S1 (by with_unfolding_all rfl) rfl d1 (fun h2 o2 d2 S2 => ?_) (by with_unfolding_all rfl) (by with_unfolding_all rfl)
  replace S2 : St C P ((L + 1, o2) :: fr) L (bindL (fun x => if x = "labels" then some NameKind.cell else some NameKind.local) [("df", .ref v.x), ("places", .ref pl)] fun _ => none) h2 := S2
  walk_at "w"
  walk_at "g"
  walk_at "w"
  refine w_len (S2.ext _ _ hv) (by (first | lia | omega)) (fun tc => ?_)
  walk_at "w"
  walk_at "S"
  refine w_newdict S (fun D h3 hD S3 => ?_)
  walk_at "w"
  refine w_for ?_
  walk_at "w"
  walk_at "S"
  refine w_iter_list S (S.ext _ _ hp) (fun I oI h4 ok it S4 e4 => ?_)
  refine WF.inv it S4 ok rm.deeper.handled (.name _ _) (fun i P' fr' m' => m' "df" = some (.ref v.x) ∧ m' "places" = some (.ref pl) ∧ m' "count" = some (.int vs.length tc) ∧ m' "seen" = some (.ref D) ∧ ∃ b : Bool, m' "lacks" = some (.bool b) ∧ (b = false ↔ Good vs.length (ps.take i)) ∧
      ∃ oD kD, fr' = (D, oD) :: (L + 1, o2) :: fr ∧ DOb (nk C) oD kD ∧ kD.length ≤ i ∧ ∀ p, nkOf p ∈ kD.map (·.1) ↔ p ∈ ps.take i)
      ⟨by with_unfolding_all rfl, by with_unfolding_all rfl, by with_unfolding_all rfl, by with_unfolding_all rfl, false, by with_unfolding_all rfl, ⟨fun _ => Good.nil, fun _ => rfl⟩, _, [], rfl, DOb.nil, Nat.le_refl _, fun p => by simp⟩ ?_ ?_ ?_
  · intro i P' fr' m' G h' e _ S'
    exact isList_of (S'.ext _ _ (e _ _ hp))
  · rintro i u P' fr' m' G h' hi hvi e ⟨m0, m1, m2, m3, b, m4, hb, oD, kD, rfl, hkD, hkl, hks⟩ S'
    have hi' : i < ps.length := by (first | lia | omega)
    obtain ⟨u', hu, lf⟩ := hl.get (i := i) (d := plD ps[i]) (by simp [hi'])
    rw [hvi] at hu
    cases hu
    have tk : ps.take (i + 1) = ps.take i ++ [ps[i]] := (List.take_append_getElem hi').symm
    rw [tk]
    generalize ps[i] = p at lf
    refine Gn.in fun _ _ => ?_
    refine w_asg ?_
    have ks2 : ∀ (p : Option Nat) (v : Value), (∀ q, nkOf q ∈ (stored kD (nkOf p) v).map (·.1) ↔ q ∈ ps.take i ++ [p]) := by
      intro p v q
      rw [mem_stored, hks, List.mem_append, List.mem_singleton]
      exact ⟨fun o => o.elim (fun e => .inr (nkOf_inj e)) .inl, fun o => o.elim .inr fun e => .inl (by rw [e])⟩
    cases p with
    | none =>
      cases lf
      · walk_at "wd"
        walk_at "wd"
        walk_at "S"
        refine w_dset (knd := nk C) (k := nkOf none) (i := 0) S rfl hkD rfl (by rw [sizeLine_eq]; (first | lia | omega)) (fun h5 oD2 hkD2 S5 => ?_)
        walk_at "w"
        refine ⟨.inl rfl, _, (D, oD2) :: (L + 1, o2) :: fr, _, Ext.rfl, ?_, S5⟩
        exact ⟨by with_unfolding_all exact m0, by with_unfolding_all exact m1, by with_unfolding_all exact m2, by with_unfolding_all exact m3, true, by with_unfolding_all rfl, ⟨fun c => Bool.noConfusion c, fun c => (by obtain ⟨k, e, _⟩ := (Good.snoc.mp c).2.1; cases e)⟩, _, _, rfl, hkD2, Nat.le_trans stored_len (by (first | lia | omega)), ks2 _ _⟩
    | some k =>
      cases lf with
      | int _ t =>
      walk_at "wd"
      refine ⟨fun cc => ?_, fun cc => ?_⟩
      · walk_at "wd"
        have cc' : vs.length ≤ k := by simpa using cc
        walk_at "S"
        refine w_dset (knd := nk C) (k := nkOf (some k)) (i := 0) S rfl hkD nk_some (by rw [sizeLine_eq]; (first | lia | omega)) (fun h5 oD2 hkD2 S5 => ?_)
        walk_at "w"
        refine ⟨.inl rfl, _, (D, oD2) :: (L + 1, o2) :: fr, _, Ext.rfl, ?_, S5⟩
        exact ⟨by with_unfolding_all exact m0, by with_unfolding_all exact m1, by with_unfolding_all exact m2, by with_unfolding_all exact m3, true, by with_unfolding_all rfl, ⟨fun c => Bool.noConfusion c, fun c => (by obtain ⟨k, e, e2⟩ := (Good.snoc.mp c).2.1; cases e; (first | lia | omega))⟩, _, _, rfl, hkD2, Nat.le_trans stored_len (by (first | lia | omega)), ks2 _ _⟩
      · walk_at "wd"
        have cc' : k < vs.length := by simpa using cc
        walk_at "S"
        refine w_din (knd := nk C) (k := nkOf (some k)) hD hkD (S.sep.own _ (.head _)) nk_some ?_
        rw [any_key]
        walk_at "w"
        refine ⟨fun cd => ?_, fun cd => ?_⟩
        · have cd' : some k ∈ ps.take i := (hks _).mp (dec_true cd)
          walk_at "wd"
          walk_at "S"
          refine w_dset (knd := nk C) (k := nkOf (some k)) (i := 0) S rfl hkD nk_some (by rw [sizeLine_eq]; (first | lia | omega)) (fun h5 oD2 hkD2 S5 => ?_)
          walk_at "w"
          refine ⟨.inl rfl, _, (D, oD2) :: (L + 1, o2) :: fr, _, Ext.rfl, ?_, S5⟩
          exact ⟨by with_unfolding_all exact m0, by with_unfolding_all exact m1, by with_unfolding_all exact m2, by with_unfolding_all exact m3, true, by with_unfolding_all rfl, ⟨fun c => Bool.noConfusion c, fun c => absurd cd' (Good.snoc.mp c).2.2⟩, _, _, rfl, hkD2, Nat.le_trans stored_len (by (first | lia | omega)), ks2 _ _⟩
        · have cd' : some k ∉ ps.take i := fun c => dec_false cd ((hks _).mpr c)
          walk_at "wd"
          walk_at "S"
          refine w_dset (knd := nk C) (k := nkOf (some k)) (i := 0) S rfl hkD nk_some (by rw [sizeLine_eq]; (first | lia | omega)) (fun h5 oD2 hkD2 S5 => ?_)
          walk_at "w"
          refine ⟨.inl rfl, _, (D, oD2) :: (L + 1, o2) :: fr, _, Ext.rfl, ?_, S5⟩
          exact ⟨by with_unfolding_all exact m0, by with_unfolding_all exact m1, by with_unfolding_all exact m2, by with_unfolding_all exact m3, b, by with_unfolding_all exact m4, hb.trans ⟨fun c => Good.snoc.mpr ⟨c, ⟨k, rfl, cc'⟩, cd'⟩, fun c => (Good.snoc.mp c).1⟩, _, _, rfl, hkD2, Nat.le_trans stored_len (by (first | lia | omega)), ks2 _ _⟩
  rintro P1 fr' m' h5 e1 ⟨m0, m1, m2, m3, b, m4, hb, oD, kD, rfl, hkD, hkl, hks⟩ S5
  rw [List.take_of_length_le (by (first | lia | omega))] at hb hks
  have hx1 := e1 _ _ hx
  have hd1 := e1 _ _ hd
  have hx1' := e1 _ _ hx'
  have hd1' := e1 _ _ hd'
  have hv1 := e1 _ _ hv
  walk_at "w"
  rcases b with _ | _
  · walk_at "wd"
    walk_at "g"
    walk_at "wd"
    have hg : Good vs.length ps := hb.mp rfl
    refine w_comp0 L rm.deeper.handled (.name _ _) (by with_unfolding_all rfl) rfl (by decide) (fun _ => rfl) ?_
    walk_at "w"
    walk_at "S"
    refine w_iter_list S (S.ext _ _ (e1 _ _ hp)) (fun I o h' ok it S3 e3 => ?_)
    refine ⟨_, _, _, I, o, _, _, _, _, rfl, it, S3, ok, by rw [sizeLine_eq]; (first | lia | omega), fun i P' fr' ys => fr' = (D, oD) :: (L + 1, o2) :: fr ∧ Lfs ys ((ps.map (pickD f.labs)).take i), ⟨rfl, .nil⟩, ?_, ?_, ?_⟩
    · intro i P' fr' ys G Lc mc h' e _ S
      exact isList_of (S.ext _ _ (e _ _ (e1 _ _ hp)))
    · rintro Lc i v P' fr' ys G mc h' hi hvi e ⟨rfl, hI⟩ hlen S
      have hi' : i < ps.length := by (first | lia | omega)
      obtain ⟨u, hu, lf⟩ := hl.get (i := i) (d := plD ps[i]) (by simp [hi'])
      rw [hvi] at hu
      cases hu
      obtain ⟨k, ek, hk⟩ := hg.1 ps[i] (List.getElem_mem hi')
      rw [ek] at lf
      cases lf with
      | int _ t =>
      have hx' := e _ _ hx1'
      have hd' := e _ _ hd1'
      obtain ⟨y, hy, ly⟩ := hvl.get (i := k) (d := pickD f.labs (some k)) (by
        show _ = some ((f.labs[k]?).getD .none)
        rw [List.getElem?_eq_getElem (by rw [← hvl.length]; exact hk)]; rfl)
      refine Gn.in fun _ _ => ?_
      refine w_asg ?_
      walk_at "w"
      walk_at "g"
      walk_at "w"
      refine w_item (St.ext (by assumption) _ _ (e _ _ hv1)) (by (first | lia | omega)) (by (first | lia | omega)) (by simpa using hy) ?_
      (try refine Gu (by assumption) ?_)
      refine ⟨_, _, _, Ext.rfl, ⟨rfl, ?_⟩, by assumption⟩
      rw [List.take_succ]
      simp only [List.getElem?_map]
      rw [List.getElem?_eq_getElem hi', ek]
      exact hI.append (.cons ly .nil)
    · rintro P' fr' ys D' n' e ⟨rfl, hI⟩ hlen h' S
      walk_at "w"
      rw [List.take_of_length_le (by rw [List.length_map]; (first | lia | omega))] at hI
      refine w_new rm.deeper S (.inl ⟨rfl, rfl⟩) (fun y dy P3 t1 t2 t3 t4 t5 h6 e3 hy S6 => ?_)
      walk_at "w"
      obtain ⟨P4, e4, S7, hD⟩ := S6.freeze (own := [(dy, _), (D', _), (D, _), (L + 1, _)])
      refine ⟨P4, ((e1.trans e).trans e3).trans e4, S7.sep, y, f.lk, ps.map (pickD f.labs), rfl, ⟨⟨y, dy, D', t1, t2, t3, t4, t5, _, f.lk, .none, _, _⟩, rfl, rfl, rfl, e4 _ _ hy, hD _ (.head _), ys, n', hD _ (.tail _ (.head _)), hI, by (first | lia | omega)⟩, .inl ⟨by rw [← hvl.length]; exact hg, rfl, rfl⟩⟩
  · walk_at "wd"
    have hg : ¬ Good vs.length ps := fun c => by cases hb.mpr c
    refine S5.call (fun fr' S' => c_row_names rm.deeper S' (hf0.ext e1) hok.labs) fun v' P2 h2 e2 S2 hx9 => ?_
    obtain ⟨l, tvs, tk', ev, htv, htl, htz⟩ := hx9
    subst ev
    walk_at "w"
    walk_at "S"
    refine w_newList S (fun F h8 S8 => ?_)
    walk_at "w"
    refine w_for ?_
    walk_at "w"
    walk_at "S"
    have hp2 := e2 _ _ (e1 _ _ hp)
    have hlab : f.labs.map (labelOf f.lk) = (f.labs.map (labT f.lk)).map PyData.str := by
      rw [List.map_map]
      exact List.map_congr_left fun d hd => (hok.labs d hd).txt
    have htl2 := htl
    rw [hlab] at htl2
    have htn : tvs.length = f.labs.length := by simpa using htl.length
    refine w_iter_list S (S.ext _ _ hp2) (fun I oI h9 ok it S9 e9 => ?_)
    refine WF.inv it S9 ok rm.deeper.handled (.name _ _) (fun i P' fr' m'' => m'' "places" = some (.ref pl) ∧ m'' "count" = some (.int vs.length tc) ∧ m'' "texts" = some (.ref l) ∧ m'' "found" = some (.ref F) ∧
        ∃ ys nF, fr' = (F, LO ys nF) :: (D, oD) :: (L + 1, o2) :: fr ∧ ys.length = i ∧ Lfs ys (((ps.map (foundT (f.labs.map (labT f.lk)))).map PyData.str).take i))
        ⟨by with_unfolding_all exact m1, by with_unfolding_all exact m2, by with_unfolding_all rfl, by with_unfolding_all rfl, [], 0, rfl, rfl, .nil⟩ ?_ ?_ ?_
    · intro i P' fr' m' G h' e _ S'
      exact isList_of (S'.ext _ _ (e _ _ hp2))
    · rintro i u P' fr' m' G h' hi hvi e ⟨m1, m2, m3, m4, ys, nF, rfl, hyl, hys⟩ S'
      have hi' : i < ps.length := by (first | lia | omega)
      obtain ⟨u', hu, lf⟩ := hl.get (i := i) (d := plD ps[i]) (by simp [hi'])
      rw [hvi] at hu
      cases hu
      have tk : ((ps.map (foundT (f.labs.map (labT f.lk)))).map PyData.str).take (i + 1) = ((ps.map (foundT (f.labs.map (labT f.lk)))).map PyData.str).take i ++ [.str (foundT (f.labs.map (labT f.lk)) ps[i])] := by
        rw [List.take_add_one]
        simp only [List.getElem?_map]
        rw [List.getElem?_eq_getElem hi']; rfl
      rw [tk]
      generalize ps[i] = p at lf
      refine Gn.in fun _ _ => ?_
      refine w_asg ?_
      cases p with
      | none =>
        cases lf
        walk_at "w"
        walk_at "S"
        refine w_m_append (S.sep.own _ (.head _)) ?_
        walk_at "wd"
        refine w_append (i := 0) S rfl (by rw [sizeLine_eq]; (first | lia | omega)) (fun h6 n6 S6 => ?_)
        walk_at "w"
        refine ⟨rfl, ?_⟩
        walk_at "w"
        refine ⟨.inl rfl, _, (F, LO (ys ++ [_]) n6) :: (D, oD) :: (L + 1, o2) :: fr, _, Ext.rfl, ?_, S6⟩
        exact ⟨by with_unfolding_all exact m1, by with_unfolding_all exact m2, by with_unfolding_all exact m3, by with_unfolding_all exact m4, _, n6, rfl, by simp [hyl], hys.append (.cons (.str _ _) .nil)⟩
      | some k =>
        cases lf with
        | int _ t =>
        walk_at "w"
        walk_at "S"
        refine w_m_append (S.sep.own _ (.head _)) ?_
        walk_at "wd"
        refine ⟨fun cc => ?_, fun cc => ?_⟩
        · have ck : vs.length ≤ k := by simpa using cc
          walk_at "wd"
          refine w_append (i := 0) S rfl (by rw [sizeLine_eq]; (first | lia | omega)) (fun h6 n6 S6 => ?_)
          walk_at "w"
          refine ⟨rfl, ?_⟩
          walk_at "w"
          refine ⟨.inl rfl, _, (F, LO (ys ++ [_]) n6) :: (D, oD) :: (L + 1, o2) :: fr, _, Ext.rfl, ?_, S6⟩
          have e0 : foundT (f.labs.map (labT f.lk)) (some k) = "NA" := by
            show ((f.labs.map (labT f.lk))[k]?).getD "NA" = _
            rw [List.getElem?_eq_none (by rw [List.length_map, ← hvl.length]; exact ck)]; rfl
          exact ⟨by with_unfolding_all exact m1, by with_unfolding_all exact m2, by with_unfolding_all exact m3, by with_unfolding_all exact m4, _, n6, rfl, by simp [hyl], hys.append (.cons (by rw [e0]; exact .str _ _) .nil)⟩
        · have ck : k < vs.length := by simpa using cc
          have ck' : k < f.labs.length := by rw [← hvl.length]; exact ck
          walk_at "wd"
          obtain ⟨y, hy, ly⟩ := htl2.get (i := k) (d := .str (labT f.lk f.labs[k])) (by simp [ck'])
          refine w_item (S.ext _ _ (e _ _ htv)) (by (first | lia | omega)) (by (first | lia | omega)) (by simpa using hy) ?_
          walk_at "w"
          refine w_append (i := 0) S rfl (by rw [sizeLine_eq]; (first | lia | omega)) (fun h6 n6 S6 => ?_)
          walk_at "w"
          refine ⟨rfl, ?_⟩
          walk_at "w"
          refine ⟨.inl rfl, _, (F, LO (ys ++ [_]) n6) :: (D, oD) :: (L + 1, o2) :: fr, _, Ext.rfl, ?_, S6⟩
          have e0 : foundT (f.labs.map (labT f.lk)) (some k) = labT f.lk f.labs[k] := by
            show ((f.labs.map (labT f.lk))[k]?).getD "NA" = _
            rw [List.getElem?_eq_getElem (by simpa using ck')]; simp
          exact ⟨by with_unfolding_all exact m1, by with_unfolding_all exact m2, by with_unfolding_all exact m3, by with_unfolding_all exact m4, _, n6, rfl, by simp [hyl], hys.append (.cons (by rw [e0]; exact ly) .nil)⟩
    · rintro P' fr' m' h' e ⟨m1, m2, m3, m4, ys, nF, rfl, hyl, hys⟩ S'
      rw [List.take_of_length_le (by simp; (first | lia | omega))] at hys
      obtain ⟨P5, e5, S10, hF⟩ := S'.freeze1
      walk_at "w"
      refine S10.call (fun fr' S' => c_make_unique (n := n) rm.deeper.up S' hF hys (by (first | lia | omega)) ?_) fun v' P6 h10 e6 S11 ⟨l', us', k', us, ev, hus, hul, huq, huz⟩ => ?_
      · intro s hs
        obtain ⟨p, hp, rfl⟩ := List.mem_map.mp hs
        cases p with
        | none => exact (by decide : (Str.ofString "NA").length ≤ 100)
        | some k =>
          show (((f.labs.map (labT f.lk))[k]?).getD "NA").length ≤ 100
          by_cases hk : k < f.labs.length
          · rw [List.getElem?_eq_getElem (by simpa using hk)]
            simp only [List.getElem_map, Option.getD_some]
            exact hok.short _ (List.getElem_mem hk)
          · rw [List.getElem?_eq_none (by simpa using hk)]; exact (by decide : (Str.ofString "NA").length ≤ 100)
      subst ev
      walk_at "w"
      refine S11.callO (fun fr' S' => c_character (n := n) rm.deeper.up S' (S'.sub _ _ hus) huz) fun v' P7 own h11 e7 S12 hx9 => ?_
      obtain ⟨x', dx', it', n', t1, t2, t3, t4, t5, t, ev, hx', hit', ho'⟩ := hx9
      subst ev; subst ho'
      walk_at "w"
      obtain ⟨P8, e8, S13, hD⟩ := S12.freeze (own := [(dx', _), (D, _), (L + 1, _)])
      refine ⟨P8, ((((e1.trans e2).trans e).trans e5).trans e6).trans (e7.trans e8), S13.sep, x', "character", us.map PyData.str, rfl, ⟨⟨x', dx', it', t1, t2, t3, t4, t5, _, "character", .none, _, _⟩, rfl, rfl, rfl, e8 _ _ hx', hD _ (.head _), us', n', e8 _ _ hit', hul, huz⟩, .inr ⟨by rw [← hvl.length]; exact hg, rfl, us, rfl, huq⟩⟩

set_option maxHeartbeats 400000
section
variable {C : Cx} {A : Around} {P : Heap} {fr own : Own} {L : Addr} {m : Str → Option Value} {h : Heap} {env : Env} {pos : Pos} {Q : Value → Heap → Prop}
/-- .. that takes owned things over -/
theorem St.callC {f : Value} {as : List Value} {post : Value → Heap → Prop} (S : St C P (own ++ fr) L m h)
    (con : ∀ fr', Sep C P (own ++ fr') h → W C A (PySem.call f as) (fun v h' => ∃ P', Ext P P' ∧ Sep C P' fr' h' ∧ post v P') h)
    (q : ∀ v P' h', Ext P P' → St C P' fr L m h' → post v P' → Q v h') : W C A (PySem.call f as) Q h := by
  obtain ⟨oL, S', back⟩ := S.toSep
  exact (con _ (S'.perm List.perm_middle.symm)).mono fun v h' ⟨P', e, S2, hp⟩ => q v P' h' e (back _ _ _ S2) hp
abbrev DispEnd (C : Cx) (Q : Value → Heap → Prop) (a : Addr) (vs : List (Value × Value)) (h2 : Heap) : Prop :=
  ∃ kvs P' fr' L' m' i, Carries (strKind C.prog C.w) vs kvs ∧ St C P' fr' L' m' h2 ∧
      fr'[i]? = some (a, ({ cls := .type "dict", data := .dict #[] } : Obj)) ∧ ∀ o' h3, DOb (strKind C.prog C.w) o' (merged [] kvs) → St C P' (fr'.set i (a, o')) L' m' h3 → Q (.ref a) h3
abbrev stood (e : Expr) (env : Env) (pos : Pos) : Sem Value := do let x ← eval e env; standAt pos; pure x
theorem w_disp3 {k1 k2 k3 v1 v2 v3 : Expr} (S : St C P fr L m h) (q : ∀ a h1, (a == sysModules) = false → St C P ((a, ({ cls := .type "dict", data := .dict #[] } : Obj)) :: fr) L m h1 →
      W C A (evalPairs [(eval k1 env, stood v1 env pos), (eval k2 env, stood v2 env pos), (eval k3 env, stood v3 env pos)]) (DispEnd C Q a) h1) : W C A (eval (.Dict [some k1, some k2, some k3] [v1, v2, v3] pos) env) Q h :=
  w_disp S (by with_unfolding_all rfl) (by simp) (by simp) q
theorem w_disp2 {k1 k2 v1 v2 : Expr} (S : St C P fr L m h) (q : ∀ a h1, (a == sysModules) = false → St C P ((a, ({ cls := .type "dict", data := .dict #[] } : Obj)) :: fr) L m h1 →
      W C A (evalPairs [(eval k1 env, stood v1 env pos), (eval k2 env, stood v2 env pos)]) (DispEnd C Q a) h1) : W C A (eval (.Dict [some k1, some k2] [v1, v2] pos) env) Q h :=
  w_disp S (by with_unfolding_all rfl) (by simp) (by simp) q
end
inductive CIs (C : Cx) (P : Heap) : List CV → List Col → Prop
  | nil : CIs C P [] []
  | cons {c cs col cols} : ColIs C P c col → CIs C P cs cols → CIs C P (c :: cs) (col :: cols)
theorem CIs.ext {C : Cx} {P P' : Heap} {cs : List CV} {cols : List Col} (x : CIs C P cs cols) (e : Ext P P') : CIs C P' cs cols := by
  induction x with
  | nil => exact .nil
  | cons a _ ih => exact .cons (a.ext e) ih
theorem CIs.snoc {C : Cx} {P : Heap} {cs : List CV} {cols : List Col} {c : CV} {col : Col} (x : CIs C P cs cols) (y : ColIs C P c col) : CIs C P (cs ++ [c]) (cols ++ [col]) := by
  induction x with
  | nil => exact .cons y .nil
  | cons a _ ih => exact .cons a ih
theorem CIs.length {C : Cx} {P : Heap} {cs : List CV} {cols : List Col} (x : CIs C P cs cols) : cs.length = cols.length := by
  induction x with
  | nil => rfl
  | cons _ _ ih => simp [ih]
theorem CIs.get {C : Cx} {P : Heap} {cs : List CV} {cols : List Col} (x : CIs C P cs cols) : ∀ {i : Nat} (h : i < cs.length), ∃ h' : i < cols.length, ColIs C P cs[i] cols[i] := by
  induction x with
  | nil => intro i h; simp at h
  | cons a _ ih =>
    intro i h
    cases i with
    | zero => exact ⟨by simp, a⟩
    | succ i => obtain ⟨h', r⟩ := ih (i := i) (by simpa using h); exact ⟨by simpa using h', r⟩
abbrev ownC (C : Cx) (cs : List CV) : Own := cs.map fun c => (c.dx, c.obj C)
abbrev shr (c : CV) : CV := { c with s := .bool true }
theorem CIs.cols {C : Cx} {P : Heap} {cs : List CV} {cols : List Col} (x : CIs C P cs cols) (h : ∀ p ∈ ownC C (cs.map shr), P.get? p.1 = some p.2) : Cols C P (cs.map (·.x)) cols := by
  induction x with
  | nil => exact .nil
  | @cons c cs col cols a _ ih =>
    refine .cons ⟨shr c, rfl, h _ (.head _), ?_⟩ (ih fun p hp => h p (.tail _ hp))
    exact a
theorem set_own (C : Cx) (a b : List CV) (c c' : CV) (r : Own) : (ownC C (a ++ c :: b) ++ r).set a.length (c'.dx, c'.obj C) = ownC C (a ++ c' :: b) ++ r := by
  simp [ownC, List.set_append]
theorem c_new_frame {C : Cx} {A : Around} {P : Heap} {fr : Own} {h : Heap} {cs : List CV} {cols : List Col} {l nl rx : Addr} {nvs : List Value} {names : List Str} {lk : Str} {labs : List PyData} {ln nn n : Nat} (rm : Rm A (n + 3)) (S : Sep C P (ownC C cs ++ fr) h)
    (hc : CIs C P cs cols) (hl : P.get? l = some (LO (cs.map fun c => .ref c.x) ln)) (hz : cs.length ≤ 100) (hn : P.get? nl = some (LO nvs nn)) (hnv : Lfs nvs (names.map .str)) (hnz : nvs.length ≤ 1000) (hr : Plain C P rx lk labs) :
    W C A (call (.ref 258) [.ref l, .ref nl, .ref rx]) (fun v h' => ∃ P', Ext P P' ∧ Sep C P' fr h' ∧ ∃ x, v = .ref x ∧ FrameAt C P' x ⟨cols, names, lk, labs⟩) h := by
  refine (WK.w ?_)
  refine' k_def (binds := [("columns", .ref l), ("names", .ref nl), ("row_labels", .ref rx)]) S rm ?ho ?hcd ?hb ?hl ?hc ?h6 ?h7 ?h8 ?_
  walk_at "sides"
  intro L h1 S1 _
  walk_at "w"
  refine w_comp0 L rm.deeper.handled (.name _ _) (by with_unfolding_all rfl) rfl (by decide) (fun _ => rfl) ?_
  walk_at "w"
  refine w_iter_list S1 (S1.ext _ _ hl) (fun I o h' ok it S3 e3 => ?_)
  refine ⟨_, _, _, I, o, _, _, _, _, rfl, it, S3, ok, by rw [sizeLine_eq, List.length_map]; (first | lia | omega), fun i P' fr' ys => fr' = ownC C ((cs.take i).map shr ++ cs.drop i) ++ fr ∧ ys = (cs.take i).map fun c => .ref c.x, ⟨rfl, rfl⟩, ?_, ?_, ?_⟩
  · intro i P' fr' ys G Lc mc h' e _ S
    exact isList_of (S.ext _ _ (e _ _ hl))
  · rintro Lc i v P' fr' ys G mc h' hi hvi e ⟨rfl, rfl⟩ hlen S
    have hi' : i < cs.length := by simpa using hi
    have hv : v = .ref cs[i].x := by
      rw [List.getElem?_map, List.getElem?_eq_getElem hi'] at hvi
      exact (Option.some.inj hvi).symm
    subst hv
    obtain ⟨hi2, hci⟩ := hc.get hi'
    have hx : P'.get? cs[i].x = some (IO cs[i].dx) := e _ _ hci.2.1
    have e0 : cs.drop i = cs[i] :: cs.drop (i + 1) := List.drop_eq_getElem_cons hi'
    have e1 : cs.take (i + 1) = cs.take i ++ [cs[i]] := (List.take_append_getElem hi').symm
    refine Gn.in fun _ _ => ?_
    refine w_asg ?_
    rw [e0] at S
    generalize cs[i] = c at *
    have hlen' : ((cs.take i).map shr).length = i := by simp; (first | lia | omega)
    walk_at "w"
    walk_at "S"
    refine S.callM (i := i) (a := c.dx) (o := c.obj C) ?_ (fun fr' S' => (c_share (rm.deeper) S' hx).mono fun v h' ⟨ev, S2⟩ => (⟨P', _, Ext.rfl, S2, (⟨ev, rfl⟩ : v = .ref c.x ∧ _ = (shr c).obj C)⟩ : ∃ P'' o', Ext P' P'' ∧ Sep C P'' ((c.dx, o') :: fr') h' ∧ (v = .ref c.x ∧ o' = (shr c).obj C))) ?_
    · rw [List.append_assoc, List.getElem?_append_left (by simp; (first | lia | omega)), List.getElem?_map, List.getElem?_append_right (by (first | lia | omega)), hlen']
      simp
    · rintro v P2 o' h2 e2 S2 ⟨rfl, rfl⟩
      have e9 : (ownC C ((cs.take i).map shr ++ c :: cs.drop (i + 1)) ++ fr ++ G).set i (c.dx, (shr c).obj C) = ownC C ((cs.take i ++ [c]).map shr ++ cs.drop (i + 1)) ++ fr ++ G := by
        have e8 := set_own C ((cs.take i).map shr) (cs.drop (i + 1)) c (shr c) (fr ++ G)
        rw [hlen'] at e8
        rw [List.append_assoc, e8]
        simp
      rw [e9, ← e1] at S2
      refine Gu (by assumption) ?_
      exact ⟨P2, ownC C ((cs.take (i + 1)).map shr ++ cs.drop (i + 1)) ++ fr, _, e2, ⟨rfl, by rw [e1]; simp⟩, S2⟩
  · rintro P' fr' ys D n' e ⟨rfl, rfl⟩ hlen h' S
    have e0 : cs.take (cs.map fun c => Value.ref c.x).length = cs := List.take_of_length_le (by simp)
    have e1 : cs.drop (cs.map fun c => Value.ref c.x).length = [] := List.drop_of_length_le (by simp)
    rw [e0, e1, List.append_nil] at S
    walk_at "w"
    obtain ⟨PD, eD, S, hD⟩ := S.freeze1
    refine w_new (rm.deeper) S (.inl ⟨rfl, rfl⟩) (fun x dx P3 t1 t2 t3 t4 t5 h6 e3 hx S6 => ?_)
    walk_at "w"
    refine w_disp3 (by assumption) (fun a h7 ha S7 => ?_)
    walk_at "w"
    refine S7.callO (fun fr' S' => c_character (n := n) rm.deeper.up S' (S'.sub _ _ ((eD.trans e3) _ _ (e _ _ hn))) hnz) fun v' P4 own h8 e4 S8 hx9 => ?_
    obtain ⟨nx, ndx, nit, nq, u1, u2, u3, u4, u5, ut, ev, hnx, hnit, ho'⟩ := hx9
    subst ev; subst ho'
    walk_at "w"
    refine w_newList S8 (fun b h9 S9 => ?_)
    walk_at "w"
    refine S9.callO (fun fr' S' => c_character (n := n) rm.deeper.up S' (S9.sep.own (b, LO [_] 0) (.head _)) (Nat.le_of_ble_eq_true rfl)) fun v' P5 own h10 e5 S10 hx9 => ?_
    obtain ⟨cx, cdx, cit, n'', w1, w2, w3, w4, w5, wt, ev, hcx, hcit, ho'⟩ := hx9
    subst ev; subst ho'
    walk_at "w"
    refine ⟨[("names", .ref nx), ("class", .ref cx), ("row.names", .ref rx)], _, _, _, _, 3, ⟨strKind_is _ _ _ _, rfl, strKind_is _ _ _ _, rfl, strKind_is _ _ _ _, rfl, trivial⟩, S10, rfl, fun o' h11 hdo S11 => ?_⟩
    walk_at "w"
    have hx5 := (e4.trans e5) _ _ hx
    refine w_set (i := 4) S11 (S11.ext _ _ hx5) rfl (v_t3 _) rfl (fun _ => rfl) rfl (fun _ => Nat.le_of_ble_eq_true rfl) (fun h12 tq S12 => ?_)
    walk_at "w"
    have S12' := (show St C P5 (((cdx, _) :: (b, _) :: (ndx, _) :: (a, o') :: (dx, FV.obj C ⟨x, dx, D, a, nx, cx, rx, t1, t2, t3, t4, t5, _, .bool false, .bool false⟩) :: ownC C (cs.map shr)) ++ fr) L _ h12 by with_unfolding_all exact S12)
    obtain ⟨P6, e6, S13, hF⟩ := S12'.freeze
    have eD' := ((e3.trans e4).trans e5).trans e6
    refine ⟨P6, (((((e.trans eD).trans e3).trans e4).trans e5).trans e6), S13.sep, x, rfl, ⟨x, dx, D, a, nx, cx, rx, t1, t2, t3, t4, t5, _, .bool false, .bool false⟩, rfl, e6 _ _ hx5, hF (dx, _) (.tail _ (.tail _ (.tail _ (.tail _ (.head _))))), ?_, ha, ?_, ?_, ?_, ?_⟩
    · refine ⟨cs.map (·.x), n', ?_, (hc.ext (((((e.trans eD).trans e3).trans e4).trans e5).trans e6)).cols fun p hp => hF p (.tail _ (.tail _ (.tail _ (.tail _ (.tail _ hp))))), by rw [List.length_map]; (first | lia | omega)⟩
      rw [List.map_map]
      exact ((((eD' D _ hD))))
    · exact ⟨o', hF (a, o') (.tail _ (.tail _ (.tail _ (.head _)))), hdo⟩
    · exact ⟨⟨nx, ndx, nit, u1, u2, u3, u4, u5, ut, "character", .none, .bool false, .bool false⟩, rfl, rfl, rfl, (e5.trans e6) _ _ hnx, hF (ndx, _) (.tail _ (.tail _ (.head _))), nvs, _, (e5.trans e6) _ _ hnit, hnv, hnz⟩
    · exact ⟨⟨cx, cdx, cit, w1, w2, w3, w4, w5, wt, "character", .none, .bool false, .bool false⟩, rfl, rfl, rfl, e6 _ _ hcx, hF (cdx, _) (.head _), _, _, e6 _ _ hcit, .cons (.str _ _) .nil, Nat.le_of_ble_eq_true rfl⟩
    · exact hr.ext (((((e.trans eD).trans e3).trans e4).trans e5).trans e6)

set_option maxHeartbeats 400000
def pickCol (ps : List (Option Nat)) (c : Col) : Col := ⟨c.k, ps.map (pickD c.items), c.fac⟩
theorem Cols.get {C : Cx} {P : Heap} {xs : List Addr} {cs : List Col} (x : Cols C P xs cs) : ∀ {i : Nat} {a : Addr}, xs[i]? = some a → ∃ c, cs[i]? = some c ∧ ColAt C P a c := by
  induction x with
  | nil => intro i a h; simp at h
  | cons a _ ih =>
    intro i b h
    cases i with
    | zero => cases h; exact ⟨_, rfl, a⟩
    | succ i => exact ih (by simpa using h)
theorem Cols.length {C : Cx} {P : Heap} {xs : List Addr} {cs : List Col} (x : Cols C P xs cs) : xs.length = cs.length := by
  induction x with
  | nil => rfl
  | cons _ _ ih => simp [ih]
theorem c_pick_rows {C : Cx} {A : Around} {P : Heap} {fr : Own} {h : Heap} {x pl : Addr} {f : Fm} {pvs : List Value} {ps : List (Option Nat)} {pn n : Nat} (rm : Rm A (n + 5)) (S : Sep C P fr h) (hf : FrameAt C P x f) (hok : FOk f) (hcz : f.cols.length ≤ 100)
    (hp : P.get? pl = some (LO pvs pn)) (hl : Lfs pvs (ps.map plD)) (hz : pvs.length ≤ 100) :
    W C A (call (.ref 308) [.ref x, .ref pl]) (fun v h' => ∃ P', Ext P P' ∧ Sep C P' fr h' ∧ ∃ y k labs, v = .ref y ∧ FrameAt C P' y ⟨f.cols.map (pickCol ps), f.names, k, labs⟩ ∧ PickL f ps k labs) h := by
  have hf0 := hf
  obtain ⟨v, rfl, hx, hd, ⟨xs, xn, hxs, hcols, hxz⟩, hs, -⟩ := hf
  have hcl := hcols.length
  refine (WK.w ?_)
  refine' k_defC (binds := [("df", .ref v.x), ("places", .ref pl)]) S rm ?ho ?hcd ?hb ?hl ?hc ?h6 ?h7 ?h8 ?_
  walk_at "sidesC"
  intro L h1 cells S1 _ Y
  obtain ⟨o1, rfl, d1⟩ := CellsAre.one Y
  replace S1 : St C P ((L + 1, o1) :: fr) L (bindL (fun x => if x = "places" then some NameKind.cell else some NameKind.local) [("df", .ref v.x), ("places", .ref pl)] fun _ => none) h1 := by with_unfolding_all exact S1
  replace d1 : o1.data = .cell (some (.ref pl)) := d1.trans (by with_unfolding_all rfl)
  walk_at "w"
  refine w_acomp0 rm.deeper.handled (.name _ _) (by with_unfolding_all rfl) rfl (by decide) (fun _ => rfl) (by with_unfolding_all rfl) (by with_unfolding_all rfl) rfl ?_
  walk_at "w"
  walk_at "g"
  walk_at "w"
  refine w_iter_list S1 (S1.ext _ _ hxs) (fun I o h' ok it S3 e3 => ?_)
  refine ⟨_, _, _, I, o, _, _, _, _, rfl, it, S3, ok, by rw [sizeLine_eq, List.length_map]; (first | lia | omega), fun i P' fr' ys => ∃ cs : List CV, fr' = ownC C cs ++ (L + 1, o1) :: fr ∧ ys = cs.map (fun c => .ref c.x) ∧ cs.length = i ∧ CIs C P' cs ((f.cols.take i).map (pickCol ps)), ⟨[], rfl, rfl, rfl, .nil⟩, ?_, ?_, ?_⟩
  · intro i P' fr' ys G Lc mc h' e _ S
    exact isList_of (S.ext _ _ (e _ _ hxs))
  · rintro Lc i u P' fr' ys G mc h' hi hvi e ⟨cs, rfl, rfl, rfl, hcs⟩ hlen S
    have hi' : cs.length < xs.length := by simpa using hi
    rw [List.getElem?_map, List.getElem?_eq_getElem hi'] at hvi
    cases hvi
    obtain ⟨col, hcol, hca⟩ := hcols.get (List.getElem?_eq_getElem hi')
    have hki := hok.cols col (List.mem_of_getElem? hcol)
    have e1 : (f.cols.take (cs.length + 1)).map (pickCol ps) = (f.cols.take cs.length).map (pickCol ps) ++ [pickCol ps col] := by
      rw [List.take_add_one, hcol]; simp
    refine Gn.in fun _ _ => ?_
    refine w_asg ?_
    walk_at "w"
    walk_at "S"
    refine S.callO (fun fr' S' => c_pick_items (n := n) rm.deeper.up S' (hca.ext e) hki (e _ _ hp) hl (by (first | lia | omega))) fun v' P2 own h2 e2 S2 hx9 => ?_
    obtain ⟨c, ev, eo, hc⟩ := hx9
    subst ev; subst eo
    refine Gu (by assumption) ?_
    refine ⟨P2, ownC C (cs ++ [c]) ++ (L + 1, o1) :: fr, _, e2, ⟨cs ++ [c], rfl, by simp, by simp, by rw [e1]; exact (hcs.ext e2).snoc hc⟩, S2.perm ?_⟩
    simp only [ownC, List.map_append, List.map_cons, List.map_nil, List.append_assoc, List.cons_append, List.nil_append]
    exact List.perm_middle.symm
  · rintro P' fr' ys D n' e ⟨cs, rfl, rfl, hcl2, hcs⟩ hlen h' S
    rw [List.take_of_length_le (by rw [← hcl]; simp)] at hcs
    obtain ⟨PD, eD, S, hD⟩ := S.freeze1
    replace S : St C PD (ownC C cs ++ (L + 1, o1) :: fr) L _ h' := S
    walk_at "w"
    refine S.call (fun fr' S' => c_column_names (n := n) rm.deeper.up S' ((hf0.ext e).ext eD)) fun v' P2 h2 e2 S2 hx9 => ?_
    obtain ⟨nl, nvs, nk', ev, hnv, hnl, hnz⟩ := hx9
    subst ev
    walk_at "w"
    refine S2.call (fun fr' S' => c_picked_labels (n := n) rm.deeper.up S' (((hf0.ext e).ext eD).ext e2) hok (((e.trans eD).trans e2) _ _ hp) hl hz) fun v' P3 h3 e3 S3 hx9 => ?_
    obtain ⟨rx, k, labs, ev, hrx, hpk⟩ := hx9
    subst ev
    walk_at "w"
    refine S3.callC (fun fr' S' => c_new_frame (n := n) rm.deeper.up S' (((hcs.ext eD).ext e2).ext e3) ((e2.trans e3) _ _ hD) (by have := hcs.length; simp at this; (first | lia | omega)) (e3 _ _ hnv) hnl hnz hrx) fun v' P4 h4 e4 S4 hx9 => ?_
    obtain ⟨y, ev, hy⟩ := hx9
    subst ev
    walk_at "w"
    exact ⟨P4, (((e.trans eD).trans e2).trans e3).trans e4, S4.sep.drop, y, k, labs, rfl, hy, hpk⟩

set_option maxHeartbeats 400000
def rng (a n : Nat) : List (Option Nat) := (List.range n).map fun i => some (a + i)
theorem Lfs.of_get {vs : List Value} : ∀ {ds : List PyData}, vs.length = ds.length → (∀ (i : Nat) (v : Value), vs[i]? = some v → ∃ d, ds[i]? = some d ∧ Lf v d) → Lfs vs ds := by
  induction vs with
  | nil =>
    intro ds hl _
    cases ds with
    | nil => exact .nil
    | cons d ds => simp at hl
  | cons v vs ih =>
    intro ds hl hg
    cases ds with
    | nil => simp at hl
    | cons d ds =>
      obtain ⟨d', e, lf⟩ := hg 0 v rfl
      cases e
      exact .cons lf (ih (by simpa using hl) fun i v hv => hg (i + 1) v (by simpa using hv))
section
variable {C : Cx} {A : Around} {P : Heap} {fr : Own} {L : Addr} {m : Str → Option Value} {h : Heap} {Q : Value → Heap → Prop}
theorem w_range2 {a b : Int} {t u : Tok} (S : St C P fr L m h) (q : ∀ r v h', St C P ((r, { cls := .type "range", data := .fields #[.int a t, .int b u, .int 1 v] }) :: fr) L m h' → Q (.ref r) h') : W C A (call (.type "range") [.int a t, .int b u]) Q h :=
  W.of fun _ _ g => call_range_2 (g _ _ _ (q _ _ _ (S.push _)))
theorem w_list_range {r : Addr} {a b : Int} {t u v : Tok} {a' n : Nat} (hh : A.handled = none) (S : St C P fr L m h) (e : h.get? r = some { cls := .type "range", data := .fields #[.int a t, .int b u, .int 1 v] }) (ha : a = a') (hb : n = (b - a).toNat) (hn : n ≤ 1000) (ha9 : a' ≤ 1000) (hb9 : b ≤ 1000) (hb8 : -1000 ≤ b)
    (q : ∀ D n' ys h', Lfs ys ((rng a' n).map plD) → ys.length = n → St C P ((D, LO ys n') :: fr) L m h' → Q (.ref D) h') : W C A (call (.type "list") [.ref r]) Q h :=
  W.of fun _ _ g => by
    subst ha
    refine call_list_range (n := n) hh e (small_one (by (first | lia | omega)) (by (first | lia | omega)) (by (first | lia | omega)) (by (first | lia | omega))) (by rw [rangeSize_one]; split <;> (first | lia | omega)) (by (first | lia | omega)) fun h' tk acc' c' hk hS' hacc => ?_
    refine g _ _ _ (q h.objs.size c' acc'.toList h' (Lfs.of_get (by simp [rng, hacc.1]) fun i w hw => ?_) (by simp [hacc.1]) (S.new hk ?_ (none_size h)))
    · have hw' : acc'[i]? = some w := by simpa using hw
      obtain ⟨tk, rfl⟩ := hacc.2 i w hw'
      have hj : i < n := by
        have := (Array.getElem?_eq_some_iff.mp hw').1
        rw [hacc.1] at this; exact this
      refine ⟨.int (a' + i : Nat), by simp [rng, hj, plD], ?_⟩
      rw [show (a' : Int) + i * 1 = ((a' + i : Nat) : Int) by (first | lia | omega)]
      exact .int _ _
    · rw [hS']
end
def headN (count : Nat) (w : Int) : Nat := if w < 0 then (max (count + w) 0).toNat else (min (count : Int) w).toNat
theorem c_head_places {C : Cx} {A : Around} {P : Heap} {fr : Own} {h : Heap} {cn : Nat} {w : Int} {t u : Tok} {n : Nat} (rm : Rm A (n + 1)) (S : Sep C P fr h) (hc : cn ≤ 100) (hw : w ≤ 100) (hw2 : -100 ≤ w) :
    W C A (call (.ref 315) [.int cn t, .int w u]) (fun v h' => ∃ P', Ext P P' ∧ Sep C P' fr h' ∧ ∃ l ys k, v = .ref l ∧ P'.get? l = some (LO ys k) ∧ Lfs ys ((rng 0 (headN cn w)).map plD) ∧ ys.length = headN cn w) h := by
  refine (WK.w ?_)
  refine' k_def (binds := [("count", .int cn t), ("wanted", .int w u)]) S rm ?ho ?hcd ?hb ?hl ?hc ?h6 ?h7 ?h8 ?_
  walk_at "sides"
  intro L h1 S1 _
  walk_at "w"
  refine ⟨fun c => ?_, fun c => ?_⟩
  · have c' : w < 0 := by simpa using c
    walk_at "w"
    refine w_max rm.deeper.handled S1 (fun t h2 S2 => ?_)
    walk_at "w"
    refine w_range S2 (fun a t u v h3 S3 => ?_)
    walk_at "w"
    refine w_list_range (a' := 0) (n := headN cn w) rm.deeper.handled S3 (S3.sep.own _ (.head _)) rfl (by unfold headN; rw [if_pos c']; (first | lia | omega)) (by unfold headN; rw [if_pos c']; (first | lia | omega)) (by (first | lia | omega)) (by (first | lia | omega)) (by (first | lia | omega)) (fun D n' ys h4 hl hyl S4 => ?_)
    walk_at "w"
    obtain ⟨P2, e2, S5, ha⟩ := S4.freeze1
    exact ⟨P2, e2, S5.sep.drop, D, ys, n', rfl, ha, hl, hyl⟩
  · have c' : ¬ w < 0 := by simpa using c
    walk_at "w"
    refine w_min rm.deeper.handled S1 (fun t h2 S2 => ?_)
    walk_at "w"
    refine w_range S2 (fun a t u v h3 S3 => ?_)
    walk_at "w"
    refine w_list_range (a' := 0) (n := headN cn w) rm.deeper.handled S3 (S3.sep.own _ (.head _)) rfl (by unfold headN; rw [if_neg c']; (first | lia | omega)) (by unfold headN; rw [if_neg c']; (first | lia | omega)) (by (first | lia | omega)) (by (first | lia | omega)) (by (first | lia | omega)) (fun D n' ys h4 hl hyl S4 => ?_)
    walk_at "w"
    obtain ⟨P2, e2, S5, ha⟩ := S4.freeze1
    exact ⟨P2, e2, S5.sep.drop, D, ys, n', rfl, ha, hl, hyl⟩
abbrev PickAt (C : Cx) (P' : Heap) (f : Fm) (ps : List (Option Nat)) (v : Value) : Prop := ∃ y k labs, v = .ref y ∧ FrameAt C P' y ⟨f.cols.map (pickCol ps), f.names, k, labs⟩ ∧ PickL f ps k labs
theorem c_order_frame {C : Cx} {A : Around} {P : Heap} {fr : Own} {h : Heap} {x pl : Addr} {f : Fm} {pvs : List Value} {ps : List (Option Nat)} {pn n : Nat} (rm : Rm A (n + 6)) (S : Sep C P fr h) (hf : FrameAt C P x f) (hok : FOk f) (hcz : f.cols.length ≤ 100)
    (hp : P.get? pl = some (LO pvs pn)) (hl : Lfs pvs (ps.map plD)) (hz : pvs.length ≤ 100) :
    W C A (call (.ref 336) [.ref x, .ref pl]) (fun v h' => ∃ P', Ext P P' ∧ Sep C P' fr h' ∧ PickAt C P' f ps v) h := by
  refine (WK.w ?_)
  refine' k_def (binds := [("df", .ref x), ("places", .ref pl)]) S rm ?ho ?hcd ?hb ?hl ?hc ?h6 ?h7 ?h8 ?_
  walk_at "sides"
  intro L h1 S1 _
  walk_at "w"
  refine S1.call (fun fr' S' => c_pick_rows rm.deeper S' hf hok hcz hp hl hz) fun v' P2 h2 e2 S2 hv => ?_
  walk_at "w"
  exact ⟨P2, e2, S2.sep, hv⟩
theorem c_head_frame {C : Cx} {A : Around} {P : Heap} {fr : Own} {h : Heap} {x : Addr} {f : Fm} {w : Int} {t : Tok} {n : Nat} (rm : Rm A (n + 6)) (S : Sep C P fr h) (hf : FrameAt C P x f) (hok : FOk f) (hcz : f.cols.length ≤ 100) (hc : f.labs.length ≤ 100) (hw : w ≤ 100) (hw2 : -100 ≤ w) :
    W C A (call (.ref 322) [.ref x, .int w t]) (fun v h' => ∃ P', Ext P P' ∧ Sep C P' fr h' ∧ PickAt C P' f (rng 0 (headN f.labs.length w)) v) h := by
  refine (WK.w ?_)
  refine' k_def (binds := [("df", .ref x), ("wanted", .int w t)]) S rm ?ho ?hcd ?hb ?hl ?hc ?h6 ?h7 ?h8 ?_
  walk_at "sides"
  intro L h1 S1 _
  walk_at "w"
  refine S1.callR (fun fr' S' => c_frame_rows rm.deeper S' hf) fun v' h2 S2 hx9 => ?_
  obtain ⟨t, hv'⟩ := hx9
  subst hv'
  walk_at "w"
  refine S2.call (fun fr' S' => c_head_places rm.deeper S' hc hw hw2) fun v' P2 h2 e2 S2 hx9 => ?_
  obtain ⟨l, ys, k, ev, hl, hys, hyl⟩ := hx9
  subst ev
  walk_at "w"
  refine S2.call (fun fr' S' => c_pick_rows rm.deeper S' (hf.ext e2) hok hcz hl hys (by rw [hyl]; unfold headN; split <;> (first | lia | omega))) fun v' P3 h3 e3 S3 hv => ?_
  walk_at "w"
  exact ⟨P3, e2.trans e3, S3.sep, hv⟩
def tailA (count : Nat) (w : Int) : Nat := if w < 0 then (min (count : Int) (-w)).toNat else (max (count - w) 0).toNat
theorem c_tail_frame {C : Cx} {A : Around} {P : Heap} {fr : Own} {h : Heap} {x : Addr} {f : Fm} {w : Int} {t : Tok} {n : Nat} (rm : Rm A (n + 6)) (S : Sep C P fr h) (hf : FrameAt C P x f) (hok : FOk f) (hcz : f.cols.length ≤ 100) (hc : f.labs.length ≤ 100) (hw : w ≤ 100) (hw2 : -100 ≤ w) :
    W C A (call (.ref 329) [.ref x, .int w t]) (fun v h' => ∃ P', Ext P P' ∧ Sep C P' fr h' ∧ PickAt C P' f (rng (tailA f.labs.length w) (f.labs.length - tailA f.labs.length w)) v) h := by
  refine (WK.w ?_)
  refine' k_def (binds := [("df", .ref x), ("wanted", .int w t)]) S rm ?ho ?hcd ?hb ?hl ?hc ?h6 ?h7 ?h8 ?_
  walk_at "sides"
  intro L h1 S1 _
  walk_at "w"
  refine S1.callR (fun fr' S' => c_frame_rows rm.deeper S' hf) fun v' h2 S2 hx9 => ?_
  obtain ⟨t, hv'⟩ := hx9
  subst hv'
  walk_at "w"
  refine ⟨fun c => ?_, fun c => ?_⟩
  · have c' : w < 0 := by simpa using c
    walk_at "w"
    walk_at "S"
    refine w_min rm.deeper.handled S (fun t h2 S2 => ?_)
    walk_at "w"
    walk_at "S"
    refine w_range2 S (fun r v h3 S3 => ?_)
    walk_at "w"
    refine w_list_range (a' := tailA f.labs.length w) (n := f.labs.length - tailA f.labs.length w) rm.deeper.handled S3 (S3.sep.own _ (.head _)) (by unfold tailA; rw [if_pos c']; (first | lia | omega)) (by unfold tailA; rw [if_pos c']; (first | lia | omega)) (by (first | lia | omega)) (by unfold tailA; rw [if_pos c']; (first | lia | omega)) (by (first | lia | omega)) (by (first | lia | omega)) (fun D n' ys h4 hl hyl S4 => ?_)
    walk_at "w"
    obtain ⟨P2, e2, S5, ha⟩ := S4.freeze1
    refine S5.call (fun fr' S' => c_pick_rows rm.deeper S' (hf.ext e2) hok hcz ha hl (by (first | lia | omega))) fun v' P3 h3 e3 S3 hv => ?_
    walk_at "w"
    exact ⟨P3, e2.trans e3, S3.sep.drop, hv⟩
  · have c' : ¬ w < 0 := by simpa using c
    walk_at "w"
    walk_at "S"
    refine w_max rm.deeper.handled S (fun t h2 S2 => ?_)
    walk_at "w"
    walk_at "S"
    refine w_range2 S (fun r v h3 S3 => ?_)
    walk_at "w"
    refine w_list_range (a' := tailA f.labs.length w) (n := f.labs.length - tailA f.labs.length w) rm.deeper.handled S3 (S3.sep.own _ (.head _)) (by unfold tailA; rw [if_neg c']; (first | lia | omega)) (by unfold tailA; rw [if_neg c']; (first | lia | omega)) (by (first | lia | omega)) (by unfold tailA; rw [if_neg c']; (first | lia | omega)) (by (first | lia | omega)) (by (first | lia | omega)) (fun D n' ys h4 hl hyl S4 => ?_)
    walk_at "w"
    obtain ⟨P2, e2, S5, ha⟩ := S4.freeze1
    refine S5.call (fun fr' S' => c_pick_rows rm.deeper S' (hf.ext e2) hok hcz ha hl (by (first | lia | omega))) fun v' P3 h3 e3 S3 hv => ?_
    walk_at "w"
    exact ⟨P3, e2.trans e3, S3.sep.drop, hv⟩

set_option maxHeartbeats 400000
/-- a list, whatever else its object bears -/
def LOb (o : Obj) (vs : List Value) : Prop := o.cls = .type "list" ∧ ∃ n, o.data = .seq vs.toArray n
theorem LOb.of {vs : List Value} {n : Nat} : LOb (LO vs n) vs := ⟨rfl, n, rfl⟩
theorem LOb.is {o : Obj} {vs : List Value} {h : Heap} {l : Addr} (x : LOb o vs) (e : h.get? l = some o) : h.IsList l vs.toArray := ⟨o, e, x.1, x.2⟩
structure CisB (C : Cx) (P : Heap) (N : Nat) (a : Int) (cl : Addr) (b : Int) (cs : List Value) (nc : Nat) : Prop where
  a0 : 0 ≤ a
  a1 : a ≤ N
  b0 : 0 ≤ b
  b1 : b < 10 ^ 46
  cl : P.get? cl = some (LO cs nc)
  allInt : ∀ v ∈ cs, ∃ i t, v = .int i t
  l0 : 0 < cs.length
  l1 : cs.length ≤ 40
def Cis (C : Cx) (P : Heap) (N : Nat) (o : Obj) : Prop := ∃ a ta cl b tb cs nc, LOb o [.int a ta, .ref cl, .int b tb] ∧ CisB C P N a cl b cs nc
theorem Cis.ext {C : Cx} {P P' : Heap} {N : Nat} {o : Obj} (x : Cis C P N o) (e : Ext P P') : Cis C P' N o := by
  obtain ⟨a, ta, cl, b, tb, cs, nc, h1, h2⟩ := x
  exact ⟨a, ta, cl, b, tb, cs, nc, h1, { h2 with cl := e _ _ h2.cl }⟩
theorem Cis.le {C : Cx} {P : Heap} {N M : Nat} {o : Obj} (x : Cis C P N o) (e : N ≤ M) : Cis C P M o := by
  obtain ⟨a, ta, cl, b, tb, cs, nc, h1, h2⟩ := x
  exact ⟨a, ta, cl, b, tb, cs, nc, h1, { h2 with a1 := by have := h2.a1; (first | lia | omega) }⟩
theorem bits64 {a : Int} (h : a.natAbs < 2 ^ 64) : Builtin.Int.intBits a ≤ 64 := by
  unfold Builtin.Int.intBits
  split
  · (first | lia | omega)
  · rename_i ne
    have : a.natAbs ≠ 0 := by
      intro z
      have : a = 0 := by (first | lia | omega)
      simp [this] at ne
    have := (Nat.log2_lt this).mpr h
    (first | lia | omega)
section
variable {C : Cx} {A : Around} {P : Heap} {fr : Own} {L : Addr} {m : Str → Option Value} {h : Heap} {Q : Value → Heap → Prop}
theorem w_itemI {value slice : Expr} {l : Addr} {vs : List Value} {o : Obj} {k : Int} {u : Tok} {x : Value} (e : h.get? l = some o) (hl : LOb o vs) (h0 : 0 ≤ k) (hhi : k < 2 ^ 63) (hx : vs[k.toNat]? = some x) (q : Q x h)
    (hs : subscripted slice false (.ref l) (.int k u) = operate [.ref l, .int k u] (getItem (.ref l) (.int k u)) := by with_unfolding_all rfl) : W C A (subscriptTail value slice (.ref l) (.int k u)) Q h :=
  W.of fun _ _ g => tail_any (hl.is e).typeIs slot_list_getitem.lookup (wpAny_getItem_list (hl.is e) h0 hhi (by simpa using hx) (g _ _ _ q)) hs
theorem w_lset {Qu : Unit → Heap → Prop} {l : Addr} {vs : List Value} {o : Obj} {i : Nat} {k : Int} {u : Tok} {v : Value} (S : St C P fr L m h) (hi : fr[i]? = some (l, o)) (hl : LOb o vs) (h0 : 0 ≤ k) (hhi : k < 2 ^ 62) (hk : k.toNat < vs.length)
    (q : ∀ h' o', LOb o' (vs.set k.toNat v) → St C P (fr.set i (l, o')) L m h' → Qu () h') : W C A (setItem (.ref l) (.int k u) v) Qu h :=
  W.of fun _ _ g => wpAny_setItem_list (hl.is (S.sep.own _ (List.mem_of_getElem? hi))) h0 (by (first | lia | omega)) (by rw [List.size_toArray]; (first | lia | omega)) fun h' hl' hs => by
    obtain ⟨o', ho', hc', n', hd'⟩ := hl'
    exact g _ _ _ (q h' o' ⟨hc', n', by rw [hd']; simp⟩ (S.set hi hs ho'))
end
theorem c_ladle {C : Cx} {A : Around} {P : Heap} {fr : Own} {h : Heap} {ci : Addr} {o : Obj} {N k : Nat} {t : Tok} {n : Nat} (rm : Rm A n) (S : Sep C P ((ci, o) :: fr) h) (hc : Cis C P N o) (hN : N ≤ 1000) (hk : 0 < k) (hk9 : k ≤ 100) :
    W C A (call (.ref 343) [.ref ci, .int k t]) (fun v h' => ∃ P' o', Ext P P' ∧ Sep C P' ((ci, o') :: fr) h' ∧ (Cis C P' (N + 1) o' ∧ ∃ r : Nat, r < k ∧ ∃ t, v = .int r t)) h := by
  refine (WK.w ?_)
  refine' k_def (binds := [("cistern", .ref ci), ("sorts_of", .int k t)]) S rm ?ho ?hcd ?hb ?hl ?hc ?h6 ?h7 ?h8 ?_
  walk_at "sides"
  intro L h1 S1 _
  obtain ⟨a, ta, cl, b, tb, cs, nc, ho, hb⟩ := hc
  walk_at "s"
  walk_at "s"
  refine W.mono (Q := fun f h' => f = .next ∧ ∃ o' m' a ta b tb, LOb o' [.int a ta, .ref cl, .int b tb] ∧ CisB C P (N + 1) a cl b cs nc ∧ m' "cistern" = some (.ref ci) ∧ m' "sorts_of" = some (.int k t) ∧ St C P ((ci, o') :: fr) L m' h') ?_ ?_
  · walk_at "w"
    refine w_itemI (S1.sep.own _ (.head _)) ho (by decide) (by decide) rfl ?_
    walk_at "w"
    refine ⟨fun c => ?_, fun c => ?_⟩
    · walk_at "w"
      refine w_itemI (S1.sep.own _ (.head _)) ho (by decide) (by decide) rfl ?_
      walk_at "w"
      walk_at "S"
      refine w_lset (i := 0) S rfl ho (by decide) (by decide) (Nat.le_of_ble_eq_true rfl) (fun h2 o2 ho2 S2 => ?_)
      have ho3 := (show LOb o2 [.int (a + 1) _, .ref cl, .int b tb] from ho2)
      have S3 := (show St C P ((ci, o2) :: fr) L _ h2 from S2)
      walk_at "w"
      refine w_itemI (S3.sep.own _ (.head _)) ho3 (by decide) (by decide) rfl ?_
      walk_at "w"
      refine w_itemI (S3.sep.own _ (.head _)) ho3 (by decide) (by decide) rfl ?_
      walk_at "w"
      have l0 := hb.l0
      have l1 := hb.l1
      have a0 := hb.a0
      have a1 := hb.a1
      refine w_len (S3.ext _ _ hb.cl) (by (first | lia | omega)) (fun tn => ?_)
      refine w_mod (by (first | lia | omega)) (fun tm => ?_)
      have f0 : 0 ≤ a.fmod cs.length := Int.fmod_nonneg_of_pos _ (by (first | lia | omega))
      have f1 : a.fmod cs.length < cs.length := Int.fmod_lt_of_pos _ (by (first | lia | omega))
      obtain ⟨q, hq⟩ : ∃ q : Nat, a.fmod cs.length = q := ⟨_, (Int.toNat_of_nonneg f0).symm⟩
      have hq9 : q < cs.length := by (first | lia | omega)
      obtain ⟨ce, tce, hce⟩ := hb.allInt cs[q] (List.getElem_mem hq9)
      refine w_item (x := .int ce tce) (S3.ext _ _ hb.cl) f0 (by (first | lia | omega)) (by rw [hq]; simp [hq9, hce]) ?_
      walk_at "w"
      walk_at "S"
      refine w_itemI (S.sep.own _ (.head _)) ho3 (by decide) (by decide) rfl ?_
      walk_at "w"
      refine w_len (S.ext _ _ hb.cl) (by (first | lia | omega)) (fun tn => ?_)
      walk_at "w"
      refine ⟨fun c1 => ?_, fun c1 => ?_⟩
      · walk_at "w"
        refine w_pow (by decide) (by decide +kernel) (fun t1 => ?_)
        walk_at "w"
        refine ⟨fun c2 => ?_, fun c2 => ?_⟩
        · walk_at "wd"
          refine w_pow (by decide) (by decide +kernel) (fun t1 => ?_)
          refine w_mod (by decide +kernel) (fun tm => ?_)
          walk_at "w"
          walk_at "S"
          refine w_lset (i := 0) S rfl ho3 (by decide) (by decide) (Nat.le_of_ble_eq_true rfl) (fun h5 o5 ho5 S5 => ?_)
          walk_at "w"
          exact ⟨rfl, o5, _, _, _, _, _, ho5, ⟨by (first | lia | omega), by (first | lia | omega), Int.fmod_nonneg_of_pos _ (by decide +kernel), Int.fmod_lt_of_pos _ (by decide +kernel), hb.cl, hb.allInt, l0, l1⟩, by with_unfolding_all rfl, by with_unfolding_all rfl, S5⟩
        · walk_at "wd"
          walk_at "w"
          refine w_mod (by decide) (fun t1 => ?_)
          have s0 : 0 ≤ ce.fmod 100000000000031 := Int.fmod_nonneg_of_pos _ (by decide)
          have s1 : ce.fmod 100000000000031 < 100000000000031 := Int.fmod_lt_of_pos _ (by decide)
          walk_at "w"
          refine w_mul (.of_left (by decide +kernel)) (fun t2 => ?_)
          walk_at "w"
          refine w_mul (.of_left (bits64 (by (first | lia | omega)))) (fun t3 => ?_)
          walk_at "w"
          refine w_mul (.of_right (by decide +kernel)) (fun t4 => ?_)
          walk_at "w"
          refine w_mul (.of_right (by decide +kernel)) (fun t5 => ?_)
          walk_at "w"
          refine w_mod (by decide) (fun t6 => ?_)
          walk_at "w"
          walk_at "S"
          refine w_lset (i := 0) S rfl ho3 (by decide) (by decide) (Nat.le_of_ble_eq_true rfl) (fun h5 o5 ho5 S5 => ?_)
          walk_at "w"
          exact ⟨rfl, o5, _, _, _, _, _, ho5, ⟨by (first | lia | omega), by (first | lia | omega), Int.fmod_nonneg_of_pos _ (by decide), Int.lt_trans (Int.fmod_lt_of_pos _ (by decide)) (by decide), hb.cl, hb.allInt, l0, l1⟩, by with_unfolding_all rfl, by with_unfolding_all rfl, S5⟩
      · walk_at "wd"
        walk_at "w"
        refine w_mod (by decide) (fun t1 => ?_)
        have s0 : 0 ≤ ce.fmod 100000000000031 := Int.fmod_nonneg_of_pos _ (by decide)
        have s1 : ce.fmod 100000000000031 < 100000000000031 := Int.fmod_lt_of_pos _ (by decide)
        walk_at "w"
        refine w_mul (.of_left (by decide +kernel)) (fun t2 => ?_)
        walk_at "w"
        refine w_mul (.of_left (bits64 (by (first | lia | omega)))) (fun t3 => ?_)
        walk_at "w"
        refine w_mul (.of_right (by decide +kernel)) (fun t4 => ?_)
        walk_at "w"
        refine w_mul (.of_right (by decide +kernel)) (fun t5 => ?_)
        walk_at "w"
        refine w_mod (by decide) (fun t6 => ?_)
        walk_at "w"
        walk_at "S"
        refine w_lset (i := 0) S rfl ho3 (by decide) (by decide) (Nat.le_of_ble_eq_true rfl) (fun h5 o5 ho5 S5 => ?_)
        walk_at "w"
        exact ⟨rfl, o5, _, _, _, _, _, ho5, ⟨by (first | lia | omega), by (first | lia | omega), Int.fmod_nonneg_of_pos _ (by decide), Int.lt_trans (Int.fmod_lt_of_pos _ (by decide)) (by decide), hb.cl, hb.allInt, l0, l1⟩, by with_unfolding_all rfl, by with_unfolding_all rfl, S5⟩
    · walk_at "w"
      refine ⟨rfl, o, _, a, ta, b, tb, ho, { hb with a1 := by have := hb.a1; (first | lia | omega) }, ?_, ?_, S1⟩
      · with_unfolding_all rfl
      · with_unfolding_all rfl
  · rintro f h2 ⟨rfl, o', m', a, ta, b, tb, ho, hb, m1, m2, S2⟩
    walk_at "w"
    refine w_itemI (S2.sep.own _ (.head _)) ho (by decide) (by decide) rfl ?_
    walk_at "w"
    refine w_mod (by (first | lia | omega)) (fun tm => ?_)
    walk_at "w"
    walk_at "S"
    refine w_itemI (S.sep.own _ (.head _)) ho (by decide) (by decide) rfl ?_
    walk_at "w"
    refine w_div (by (first | lia | omega)) (PyProof.noPylong_small (by (first | lia | omega))) (fun td => ?_)
    walk_at "w"
    walk_at "S"
    refine w_lset (i := 0) S rfl ho (by decide) (by decide) (Nat.le_of_ble_eq_true rfl) (fun h5 o5 ho5 S5 => ?_)
    walk_at "w"
    have b0 := hb.b0
    have b1 := hb.b1
    have f0 : 0 ≤ b.fmod k := Int.fmod_nonneg_of_pos _ (by (first | lia | omega))
    have f1 : b.fmod k < k := Int.fmod_lt_of_pos _ (by (first | lia | omega))
    have e1 : b.fdiv k = b / (k : Int) := Int.fdiv_eq_ediv_of_nonneg _ (by (first | lia | omega))
    have g0 : 0 ≤ b / (k : Int) := Int.ediv_nonneg b0 (by (first | lia | omega))
    have g1 : b / (k : Int) ≤ b := Int.ediv_le_self _ b0
    refine ⟨P, o5, Ext.rfl, S5.sep, ⟨a, ta, cl, b.fdiv k, td, cs, nc, ho5, { hb with b0 := by (first | lia | omega), b1 := by (first | lia | omega) }⟩, (b.fmod k).toNat, by (first | lia | omega), tm, by rw [Int.toNat_of_nonneg f0]⟩

set_option maxHeartbeats 400000
section
variable {C : Cx} {A : Around} {P : Heap} {fr : Own} {L : Addr} {m : Str → Option Value} {h : Heap} {Q : Value → Heap → Prop}
/-- .. that changes one owned thing and hands out others -/
theorem St.callMO {f : Value} {as : List Value} {a : Addr} {o : Obj} {i : Nat} {post : Value → Obj → Own → Heap → Prop} (S : St C P fr L m h) (hi : fr[i]? = some (a, o))
    (con : ∀ fr', Sep C P ((a, o) :: fr') h → W C A (PySem.call f as) (fun v h' => ∃ P' o' own, Ext P P' ∧ Sep C P' ((a, o') :: (own ++ fr')) h' ∧ post v o' own P') h)
    (q : ∀ v P' o' own h', Ext P P' → St C P' (own ++ fr.set i (a, o')) L m h' → post v o' own P' → Q v h') : W C A (PySem.call f as) Q h := by
  obtain ⟨oL, S', back⟩ := S.toSep
  obtain ⟨pre, post', e0, e1⟩ := split_at hi
  have k0 : ((L, oL) :: fr).Perm ((a, o) :: (L, oL) :: (pre ++ post')) := by
    rw [e0]; exact (List.perm_middle.cons _).trans (List.Perm.swap ..)
  refine (con ((L, oL) :: (pre ++ post')) (S'.perm k0)).mono fun v h' ⟨P', o', own, e, S2, hp⟩ => q v P' o' own h' e (back _ _ _ (S2.perm ?_)) hp
  rw [e1]
  have k1 : ((a, o') :: (own ++ (L, oL) :: (pre ++ post'))).Perm ((a, o') :: (L, oL) :: (own ++ (pre ++ post'))) := List.perm_middle.cons _
  have k2 : ((a, o') :: (own ++ (pre ++ post'))).Perm (own ++ (pre ++ (a, o') :: post')) := by
    rw [← List.append_assoc, ← List.append_assoc]; exact List.perm_middle.symm
  exact (k1.trans (List.Perm.swap ..)).trans (k2.cons _)
theorem w_sitem {value slice : Expr} {x : Str} {t u : Tok} {i : Int} (h1 : 0 ≤ i) (h2 : i < x.length) (h3 : x.length < 2 ^ 60) (q : ∀ t, Q (.str (Txt.item x i) t) h)
    (hs : subscripted slice false (.str x t) (.int i u) = operate [.str x t, .int i u] (getItem (.str x t) (.int i u)) := by with_unfolding_all rfl)
    (ht : ∀ r, letTemporaryGo value (.str x t) r = pure () := by intro _; with_unfolding_all rfl) : W C A (subscriptTail value slice (.str x t) (.int i u)) Q h :=
  W.of fun _ _ g => item_str (by unfold fitsSsize; simp; (first | lia | omega)) (by (first | lia | omega)) h2 (fun _ => g _ _ _ (q _)) hs ht
end
theorem lay_snoc {ds : List PyData} {d : PyData} (h : PyData.canLayAll0 ds = true) (hd : d.canLay0 = true) : PyData.canLayAll0 (ds ++ [d]) = true := by
  induction ds with
  | nil => simp [PyData.canLayAll0, hd]
  | cons a ds ih =>
    simp only [PyData.canLayAll0, Bool.and_eq_true, List.cons_append] at h ⊢
    exact ⟨h.1, ih h.2⟩
theorem lay_wxyz {i : Nat} (h : i < 4) : (PyData.str (Txt.item "wxyz" i)).canLay0 = true := by
  rcases (by (first | lia | omega) : i = 0 ∨ i = 1 ∨ i = 2 ∨ i = 3) with rfl | rfl | rfl | rfl <;> decide +kernel
theorem perm3 {α : Type} (a b c : α) (r : List α) : (a :: b :: c :: r).Perm (b :: c :: a :: r) := (List.Perm.swap ..).trans ((List.Perm.swap ..).cons _)
theorem c_column {C : Cx} {A : Around} {P : Heap} {fr : Own} {h : Heap} {ci : Addr} {o : Obj} {N high : Nat} {t : Tok} {n : Nat} (rm : Rm A (n + 3)) (S : Sep C P ((ci, o) :: fr) h) (hc : Cis C P N o) (hN : N ≤ 900) (hk9 : high ≤ 10) :
    W C A (call (.ref 350) [.ref ci, .int high t]) (fun v h' => ∃ P' o' own, Ext P P' ∧ Sep C P' ((ci, o') :: (own ++ fr)) h' ∧ (Cis C P' (N + 11) o' ∧ ∃ (c : CV) (col : Col), v = .ref c.x ∧ own = [(c.dx, c.obj C)] ∧ ColIs C P' c col ∧ (col.k = "integer" ∨ col.k = "character") ∧ col.items.length = high ∧ PyData.canLayAll0 col.items = true)) h := by
  refine (WK.w ?_)
  refine' k_def (binds := [("cistern", .ref ci), ("high", .int high t)]) S rm ?ho ?hcd ?hb ?hl ?hc ?h6 ?h7 ?h8 ?_
  walk_at "sides"
  intro L h1 S1 _
  walk_at "w"
  rename_i t3
  refine S1.callM (i := 0) rfl (fun fr' S' => c_ladle (n := n) (k := 3) (t := t3) rm.deeper.up S' hc (by (first | lia | omega)) (by decide) (by decide)) fun v P1 o1 h2 e1 S2 hx9 => ?_
  obtain ⟨hc1, so, hso, t4, ev⟩ := hx9
  subst ev
  walk_at "w"
  walk_at "S"
  refine w_newList S (fun D h3 S3 => ?_)
  walk_at "w"
  refine w_for ?_
  walk_at "w"
  walk_at "S"
  refine w_range S (fun r t5 t6 t7 h4 S4 => ?_)
  walk_at "w"
  refine w_iter_range (k := high) S4 (S4.sep.own _ (.head _)) rfl (by (first | lia | omega)) (fun I oI h5 ok it S5 e5 => ?_)
  replace S5 := S5.perm (List.Perm.swap ..)
  replace S5 := S5.drop
  refine WF.inv it S5 ok rm.deeper.handled (.name _ _) (fun i P' fr' m' => m' "cistern" = some (.ref ci) ∧ m' "sort" = some (.int so t4) ∧ m' "items" = some (.ref D) ∧ ∃ o' ys nD ds, fr' = (D, LO ys nD) :: (ci, o') :: fr ∧ Cis C P' (N + 1 + i) o' ∧ Lfs ys ds ∧ ds.length = i ∧ PyData.canLayAll0 ds = true)
      ⟨by with_unfolding_all rfl, by with_unfolding_all rfl, by with_unfolding_all rfl, o1, [], 0, [], rfl, hc1, .nil, rfl, rfl⟩ ?_ ?_ ?_
  · intro i P' fr' m' G h' e _ S'
    trivial
  · rintro i u P' fr' m' G h' hi ⟨tu, rfl⟩ e ⟨m1, m2, m3, o', ys, nD, ds, rfl, hci, hys, hdl, hlay⟩ S'
    have hyl := hys.length
    refine Gn.in fun _ _ => ?_
    refine w_asg ?_
    walk_at "w"
    walk_at "S"
    rename_i t5
    refine S.callM (i := 1) rfl (fun fr' S' => c_ladle (n := n) (k := 5) (t := t5) rm.deeper.up S' hci (by (first | lia | omega)) (by decide) (by decide)) fun v P2 o2 h2 e2 S2 hx9 => ?_
    obtain ⟨hc2, he, hhe, t6, ev⟩ := hx9
    subst ev
    walk_at "w"
    refine ⟨fun c1 => ?_, fun c1 => ?_⟩
    · walk_at "w"
      walk_at "S"
      refine w_m_append (S.sep.own _ (.head _)) ?_
      walk_at "w"
      refine w_append (i := 0) S rfl (by rw [sizeLine_eq]; (first | lia | omega)) (fun h6 n6 S6 => ?_)
      walk_at "w"
      refine ⟨rfl, ?_⟩
      walk_at "w"
      refine ⟨.inl rfl, _, (D, LO (ys ++ [_]) n6) :: (ci, o2) :: fr, _, e2, ?_, S6⟩
      exact ⟨by with_unfolding_all exact m1, by with_unfolding_all exact m2, by with_unfolding_all exact m3, o2, _, n6, _, rfl, hc2, hys.append (.cons .none .nil), by simp [hdl], lay_snoc hlay rfl⟩
    · have c1' : he ≠ 4 := by
        have : ((he : Int) == 4) = false := c1
        rw [beq_eq_false_iff_ne] at this
        (first | lia | omega)
      walk_at "w"
      refine ⟨fun c2 => ?_, fun c2 => ?_⟩
      · walk_at "w"
        walk_at "S"
        refine w_m_append (S.sep.own _ (.head _)) ?_
        walk_at "w"
        refine w_sitem (by (first | lia | omega)) (by rw [show (Str.ofString "wxyz").length = 4 by decide]; (first | lia | omega)) (by rw [show (Str.ofString "wxyz").length = 4 by decide]; (first | lia | omega)) (fun t7 => ?_)
        walk_at "w"
        refine w_append (i := 0) S rfl (by rw [sizeLine_eq]; (first | lia | omega)) (fun h6 n6 S6 => ?_)
        walk_at "w"
        refine ⟨rfl, ?_⟩
        walk_at "w"
        refine ⟨.inl rfl, _, (D, LO (ys ++ [_]) n6) :: (ci, o2) :: fr, _, e2, ?_, S6⟩
        exact ⟨by with_unfolding_all exact m1, by with_unfolding_all exact m2, by with_unfolding_all exact m3, o2, _, n6, _, rfl, hc2, hys.append (.cons (.str _ _) .nil), by simp [hdl], lay_snoc hlay (lay_wxyz (by (first | lia | omega)))⟩
      · walk_at "w"
        walk_at "S"
        refine w_m_append (S.sep.own _ (.head _)) ?_
        walk_at "w"
        refine w_mod (by decide) (fun t7 => ?_)
        walk_at "w"
        refine w_append (i := 0) S rfl (by rw [sizeLine_eq]; (first | lia | omega)) (fun h6 n6 S6 => ?_)
        walk_at "w"
        refine ⟨rfl, ?_⟩
        walk_at "w"
        refine ⟨.inl rfl, _, (D, LO (ys ++ [_]) n6) :: (ci, o2) :: fr, _, e2, ?_, S6⟩
        exact ⟨by with_unfolding_all exact m1, by with_unfolding_all exact m2, by with_unfolding_all exact m3, o2, _, n6, _, rfl, hc2, hys.append (.cons (.int _ _) .nil), by simp [hdl], lay_snoc hlay rfl⟩
  · rintro P' fr' m' h' e ⟨m1, m2, m3, o', ys, nD, ds, rfl, hci, hys, hdl, hlay⟩ S'
    have hyl := hys.length
    have hci' := hci.le (M := N + 11) (by (first | lia | omega))
    walk_at "w"
    refine ⟨fun c1 => ?_, fun c1 => ?_⟩
    · walk_at "w"
      refine S'.callO (fun fr' S'' => c_character (n := n) rm.deeper.up S'' (S'.sep.own (D, LO ys nD) (.head _)) (by (first | lia | omega))) fun v' P7 own h11 e7 S12 hx9 => ?_
      obtain ⟨x', dx', it', n', t1, t2, t3, t4, t5, t, ev, hx', hit', ho'⟩ := hx9
      subst ev; subst ho'
      walk_at "w"
      obtain ⟨P8, e8, S13, -⟩ := (S12.perm (List.Perm.swap ..)).freeze1
      have S14 := S13.perm (List.Perm.swap ..)
      exact ⟨P8, o', [(dx', _)], ((e1.trans e).trans e7).trans e8, S14.sep, hci'.ext (e7.trans e8), ⟨x', dx', it', t1, t2, t3, t4, t5, t, "character", .none, .bool false, .bool false⟩, ⟨"character", ds, false⟩, rfl, rfl,
        ⟨rfl, e8 _ _ hx', ⟨ys, n', e8 _ _ hit', hys, by (first | lia | omega)⟩, .inl ⟨rfl, rfl⟩⟩, .inr rfl, hdl, hlay⟩
    · walk_at "w"
      refine S'.callO (fun fr' S'' => c_integer (n := n) rm.deeper.up S'' (S'.sep.own (D, LO ys nD) (.head _)) (by (first | lia | omega))) fun v' P7 own h11 e7 S12 hx9 => ?_
      obtain ⟨x', dx', it', n', t1, t2, t3, t4, t5, t, ev, hx', hit', ho'⟩ := hx9
      subst ev; subst ho'
      walk_at "w"
      refine ⟨fun c2 => ?_, fun c2 => ?_⟩
      · walk_at "w"
        walk_at "S"
        refine w_disp2 S (fun a h7 ha S7 => ?_)
        walk_at "w"
        refine w_newList S7 (fun b h8 S8 => ?_)
        walk_at "w"
        refine S8.callO (fun fr' S' => c_character (n := n) rm.deeper.up S' (S8.sep.own (b, LO [_, _, _] 0) (.head _)) (Nat.le_of_ble_eq_true rfl)) fun v' P4 own h9 e4 S9 hx9 => ?_
        obtain ⟨nx, ndx, nit, nq, u1, u2, u3, u4, u5, ut, ev, hnx, hnit, ho'⟩ := hx9
        subst ev; subst ho'
        walk_at "w"
        refine w_newList S9 (fun b2 h10 S10 => ?_)
        walk_at "w"
        refine S10.callO (fun fr' S' => c_character (n := n) rm.deeper.up S' (S10.sep.own (b2, LO [_] 0) (.head _)) (Nat.le_of_ble_eq_true rfl)) fun v' P5 own h11 e5 S11 hx9 => ?_
        obtain ⟨cx, cdx, cit, n'', w1, w2, w3, w4, w5, wt, ev, hcx, hcit, ho'⟩ := hx9
        subst ev; subst ho'
        walk_at "w"
        refine ⟨[("levels", .ref nx), ("class", .ref cx)], _, _, _, _, 4, ⟨strKind_is _ _ _ _, rfl, strKind_is _ _ _ _, rfl, trivial⟩, S11, rfl, fun o9 h12 hdo S12 => ?_⟩
        walk_at "w"
        have hx5 := (e4.trans e5) _ _ hx'
        refine w_set (i := 5) S12 (S12.ext _ _ hx5) rfl (v_t3 _) rfl (fun _ => rfl) rfl (fun _ => Nat.le_of_ble_eq_true rfl) (fun h13 tq S13 => ?_)
        walk_at "w"
        have S14 := (show St C P5 ((cdx, _) :: (b2, _) :: (ndx, _) :: (b, _) :: (a, o9) :: (dx', CV.obj C ⟨x', dx', it', t1, t2, t3, t4, t5, t, "integer", .ref a, .bool false, .bool false⟩) :: (D, LO ys nD) :: (ci, o') :: fr) L _ h13 by with_unfolding_all exact S13)
        obtain ⟨P6, e6, S15, hF⟩ := (S14.perm (show List.Perm _ ([(cdx, _), (b2, _), (ndx, _), (b, _), (a, o9), (D, LO ys nD)] ++ ((ci, o') :: (dx', CV.obj C ⟨x', dx', it', t1, t2, t3, t4, t5, t, "integer", .ref a, .bool false, .bool false⟩) :: fr)) from ((((perm3 ..).cons _).cons _).cons _ |>.cons _).cons _)).freeze
        exact ⟨P6, o', [(dx', _)], (((e1.trans e).trans e7).trans (e4.trans e5)).trans e6, S15.sep, hci'.ext ((e7.trans (e4.trans e5)).trans e6), ⟨x', dx', it', t1, t2, t3, t4, t5, t, "integer", .ref a, .bool false, .bool false⟩, ⟨"integer", ds, true⟩, rfl, rfl,
            ⟨rfl, e6 _ _ hx5, ⟨ys, n', ((e4.trans e5).trans e6) _ _ hit', hys, by (first | lia | omega)⟩, .inr ⟨rfl, a, nx, cx, o9, rfl, ha, hF (a, o9) (.tail _ (.tail _ (.tail _ (.tail _ (.head _))))), hdo,
              ⟨⟨nx, ndx, nit, u1, u2, u3, u4, u5, ut, "character", .none, .bool false, .bool false⟩, rfl, rfl, rfl, (e5.trans e6) _ _ hnx, hF (ndx, _) (.tail _ (.tail _ (.head _))), _, _, (e5.trans e6) _ _ hnit, .cons (.str _ _) (.cons (.str _ _) (.cons (.str _ _) .nil)), Nat.le_of_ble_eq_true rfl⟩,
              ⟨⟨cx, cdx, cit, w1, w2, w3, w4, w5, wt, "character", .none, .bool false, .bool false⟩, rfl, rfl, rfl, e6 _ _ hcx, hF (cdx, _) (.head _), _, _, e6 _ _ hcit, .cons (.str _ _) .nil, Nat.le_of_ble_eq_true rfl⟩⟩⟩, .inl rfl, hdl, hlay⟩
      · walk_at "w"
        walk_at "S"
        obtain ⟨P8, e8, S13, -⟩ := (S.perm (List.Perm.swap ..)).freeze1
        have S14 := S13.perm (List.Perm.swap ..)
        exact ⟨P8, o', [(dx', _)], ((e1.trans e).trans e7).trans e8, S14.sep, hci'.ext (e7.trans e8), ⟨x', dx', it', t1, t2, t3, t4, t5, t, "integer", .none, .bool false, .bool false⟩, ⟨"integer", ds, false⟩, rfl, rfl,
          ⟨rfl, e8 _ _ hx', ⟨ys, n', e8 _ _ hit', hys, by (first | lia | omega)⟩, .inl ⟨rfl, rfl⟩⟩, .inl rfl, hdl, hlay⟩

abbrev SlO (a b : Value) : Obj := { cls := .type "slice", data := .fields #[a, b, .none] }
section
variable {C : Cx} {A : Around} {P : Heap} {fr : Own} {L : Addr} {m : Str → Option Value} {h : Heap} {env : Env} {pos : Pos} {Q : Value → Heap → Prop}
theorem w_slhi {upper : Expr} (q : W C A (eval upper env) (fun u h1 => ∃ P fr L m, St C P fr L m h1 ∧ ∀ sl h2, St C P ((sl, SlO .none u) :: fr) L m h2 → Q (.ref sl) h2) h) : W C A (eval (.Slice none (some upper) none pos) env) Q h :=
  W.of fun _ _ g => wpAny_Slice (wpAny_evalPart_none (wpAny_evalPart_some (q.use fun u h1 k1 q => by
    obtain ⟨P, fr, L, m, S, fin⟩ := q
    exact wpAny_evalPart_none (g _ _ _ (fin _ _ (S.push (SlO .none u)))))))
theorem w_sllo {lower : Expr} (q : W C A (eval lower env) (fun u h1 => ∃ P fr L m, St C P fr L m h1 ∧ ∀ sl h2, St C P ((sl, SlO u .none) :: fr) L m h2 → Q (.ref sl) h2) h) : W C A (eval (.Slice (some lower) none none pos) env) Q h :=
  W.of fun _ _ g => wpAny_Slice (wpAny_evalPart_some (q.use fun u h1 k1 q => wpAny_evalPart_none (by
    obtain ⟨P, fr, L, m, S, fin⟩ := q
    exact wpAny_evalPart_none (g _ _ _ (fin _ _ (S.push (SlO u .none)))))))
/-- xs[:k] -/
theorem w_lslice {value slice : Expr} {l sl : Addr} {vs : List Value} {n k : Nat} {u : Tok} (S : St C P fr L m h) (e : h.get? l = some (LO vs n)) (es : h.get? sl = some (SlO .none (.int k u))) (hz : vs.length ≤ 1000)
    (q : ∀ D h', St C P ((D, LO (vs.take k) 0) :: fr) L m h' → Q (.ref D) h')
    (hs : subscripted slice false (.ref l) (.ref sl) = operate [.ref sl, .ref l] (getItem (.ref l) (.ref sl)) := by with_unfolding_all rfl) : W C A (subscriptTail value slice (.ref l) (.ref sl)) Q h :=
  W.of fun _ _ g => by
    refine tail_any (isList_of e).typeIs slot_list_getitem.lookup (wpAny_getItem_list_slice (vs := .none) (st := none) (isList_of e) ⟨_, es, rfl, rfl⟩ .none (.int _ _) .none (by simp) ?_ (by rw [List.size_toArray, sizeLine_eq]; (first | lia | omega))) hs
    rw [slicePick_upto']
    exact g _ _ _ (q _ _ (S.push (LO (vs.take k) 0)))
end

local macro_rules | `(tactic| walk_at "s") => `(tactic| first
  | (with_reducible refine w_slhi ?_)
  | (with_reducible refine w_sllo ?_))

set_option maxHeartbeats 400000
theorem Lfs.erase {vs : List Value} {ds : List PyData} (x : Lfs vs ds) : ∀ i : Nat, Lfs (vs.eraseIdx i) (ds.eraseIdx i) := by
  induction x with
  | nil => intro i; exact .nil
  | cons a b ih =>
    intro i
    cases i with
    | zero => exact b
    | succ i => exact .cons a (ih i)
theorem erase_map {α β : Type} (f : α → β) : ∀ (l : List α) (i : Nat), (l.map f).eraseIdx i = (l.eraseIdx i).map f
  | [], _ => rfl
  | _ :: _, 0 => rfl
  | a :: l, i + 1 => by
    show f a :: (l.map f).eraseIdx i = f a :: (l.eraseIdx i).map f
    rw [erase_map f l i]
theorem erase_perm {α : Type} : ∀ {l : List α} {i : Nat} (h : i < l.length), (l[i] :: l.eraseIdx i).Perm l
  | a :: l, 0, _ => .refl _
  | a :: l, i + 1, h => (List.Perm.swap ..).trans ((erase_perm (l := l) (i := i) (by simpa using h)).cons a)
theorem c_order {C : Cx} {A : Around} {P : Heap} {fr : Own} {h : Heap} {ci : Addr} {o : Obj} {N high : Nat} {t : Tok} {n : Nat} (rm : Rm A (n + 3)) (S : Sep C P ((ci, o) :: fr) h) (hc : Cis C P N o) (hN : N ≤ 900) (hk9 : high ≤ 10) :
    W C A (call (.ref 362) [.ref ci, .int high t]) (fun v h' => ∃ P' o' own, Ext P P' ∧ Sep C P' ((ci, o') :: (own ++ fr)) h' ∧ (Cis C P' (N + 10) o' ∧ own = [] ∧ ∃ (l : Addr) (vs : List Value) (k : Nat) (ps : List Nat), v = .ref l ∧ P'.get? l = some (LO vs k) ∧ Lfs vs ((ps.map some).map plD) ∧ ps.Perm (List.range high))) h := by
  refine (WK.w ?_)
  refine' k_def (binds := [("cistern", .ref ci), ("high", .int high t)]) S rm ?ho ?hcd ?hb ?hl ?hc ?h6 ?h7 ?h8 ?_
  walk_at "sides"
  intro L h1 S1 _
  walk_at "w"
  refine w_range S1 (fun r t5 t6 t7 h4 S4 => ?_)
  walk_at "w"
  refine w_list_range (a' := 0) (n := high) rm.deeper.handled S4 (S4.sep.own _ (.head _)) rfl (by (first | lia | omega)) (by (first | lia | omega)) (by (first | lia | omega)) (by (first | lia | omega)) (by (first | lia | omega)) (fun D n' ys h4 hl hyl S5 => ?_)
  replace S5 := (S5.perm (List.Perm.swap ..)).drop
  walk_at "w"
  walk_at "S"
  refine w_newList S (fun F h8 S8 => ?_)
  walk_at "w"
  refine w_for ?_
  walk_at "w"
  walk_at "S"
  refine w_range S (fun r t5 t6 t7 h4 S4 => ?_)
  walk_at "w"
  refine w_iter_range (k := high) S4 (S4.sep.own _ (.head _)) rfl (by (first | lia | omega)) (fun I oI h5 ok it S5 e5 => ?_)
  replace S5 := (S5.perm (List.Perm.swap ..)).drop
  have e0 : (rng 0 high).map plD = ((List.range high).map some).map plD := by simp [rng]
  rw [e0] at hl
  refine WF.inv it S5 ok rm.deeper.handled (.name _ _) (fun i P' fr' m' => m' "cistern" = some (.ref ci) ∧ m' "waiting" = some (.ref D) ∧ m' "places" = some (.ref F) ∧ ∃ o' ys nF ws nD ps qs, fr' = (F, LO ys nF) :: (D, LO ws nD) :: (ci, o') :: fr ∧ Cis C P' (N + i) o' ∧
        Lfs ys ((ps.map some).map plD) ∧ Lfs ws ((qs.map some).map plD) ∧ ps.length = i ∧ (ps ++ qs).Perm (List.range high))
      ⟨by with_unfolding_all rfl, by with_unfolding_all rfl, by with_unfolding_all rfl, o, [], 0, ys, n', [], List.range high, rfl, hc, .nil, hl, rfl, .refl _⟩ ?_ ?_ ?_
  · intro i P' fr' m' G h' e _ S'
    trivial
  · rintro i u P' fr' m' G h' hi ⟨tu, rfl⟩ e ⟨m1, m2, m3, o', ys, nF, ws, nD, ps, qs, rfl, hci, hys, hws, hpl, hpm⟩ S'
    have hyl := hys.length
    have hwl := hws.length
    have hpl2 := hpm.length_eq
    simp only [List.length_map, List.length_append, List.length_range] at hyl hwl hpl2
    refine Gn.in fun _ _ => ?_
    refine w_asg ?_
    walk_at "w"
    walk_at "S"
    refine w_m_append (S.sep.own _ (.head _)) ?_
    walk_at "w"
    refine w_m_pop (S.sep.own _ (.tail _ (.head _))) ?_
    walk_at "w"
    refine w_len (S.sep.own (D, LO ws nD) (.tail _ (.head _))) (by (first | lia | omega)) (fun t5 => ?_)
    walk_at "w"
    refine S.callM (i := 2) rfl (fun fr' S' => c_ladle (n := n) (k := ws.length) (t := t5) rm.deeper.up S' hci (by (first | lia | omega)) (by (first | lia | omega)) (by (first | lia | omega))) fun v P2 o2 h2 e2 S2 hx9 => ?_
    obtain ⟨hc2, he, hhe, t6, ev⟩ := hx9
    subst ev
    walk_at "w"
    have hq : he < qs.length := by (first | lia | omega)
    obtain ⟨y, hy, ly⟩ := hws.get (i := he) (d := plD (some qs[he])) (by simp [hq])
    refine w_pop (i := 1) S2 rfl (by (first | lia | omega)) (by (first | lia | omega)) (by (first | lia | omega)) (by simpa using hy) (fun h6 n6 S6 => ?_)
    walk_at "w"
    refine w_append (i := 0) S6 rfl (by rw [sizeLine_eq]; (first | lia | omega)) (fun h7 n7 S7 => ?_)
    walk_at "w"
    refine ⟨rfl, ?_⟩
    walk_at "w"
    refine ⟨.inl rfl, _, (F, LO (ys ++ [_]) n7) :: (D, LO (ws.eraseIdx he) n6) :: (ci, o2) :: fr, _, e2, ?_, S7⟩
    refine ⟨by with_unfolding_all exact m1, by with_unfolding_all exact m2, by with_unfolding_all exact m3, o2, _, n7, _, n6, ps ++ [qs[he]], qs.eraseIdx he, rfl, hc2, ?_, ?_, by simp [hpl], ?_⟩
    · rw [List.map_append, List.map_append]
      exact hys.append (.cons ly .nil)
    · rw [← erase_map, ← erase_map]
      exact hws.erase he
    · have pe : (qs[he] :: qs.eraseIdx he).Perm qs := erase_perm hq
      rw [List.append_assoc]
      exact (pe.append_left ps).trans hpm
  · rintro P' fr' m' h' e ⟨m1, m2, m3, o', ys, nF, ws, nD, ps, qs, rfl, hci, hys, hws, hpl, hpm⟩ S'
    have hpl2 := hpm.length_eq
    simp only [List.length_append, List.length_range] at hpl2
    have : qs = [] := List.length_eq_zero_iff.mp (by (first | lia | omega))
    subst this
    rw [List.append_nil] at hpm
    walk_at "w"
    obtain ⟨P8, e8, S13, hF⟩ := S'.freeze (own := [(F, _), (D, _)])
    exact ⟨P8, o', [], e.trans e8, S13.sep, (hci.ext e8).le (by (first | lia | omega)), rfl, F, ys, nF, ps, rfl, hF (F, _) (.head _), hys, hpm⟩

set_option maxHeartbeats 400000
def marksI (high : Nat) : List PyData := (List.range high).map fun i : Nat => .int ((i : Int) + 1)
def marksC (high : Nat) : List PyData := (List.range high).map fun i : Nat => .str ("n" ++ Str.ofString (toString (Int.fmod (7 * (i : Int)) 11)))
structure FrOk (f : Fm) (high : Nat) : Prop where
  ok : FOk f
  hi6 : high ≤ 6
  ncols : 1 ≤ f.cols.length ∧ f.cols.length ≤ 3
  items : ∀ c ∈ f.cols, c.items.length = high
  labs : f.labs.length = high
  nd : (f.labs.map (labT f.lk)).Nodup
  lay : ∀ c ∈ f.cols, PyData.canLayAll0 c.items = true
  layL : PyData.canLayAll0 f.labs = true
  layN : PyData.canLayAll0 (f.names.map .str) = true
  lkOk : f.lk = "integer" ∨ f.lk = "character"
theorem marksI_ok {cols : List Col} {names : List Str} {high : Nat} (h : high ≤ 6) (hn : 1 ≤ cols.length ∧ cols.length ≤ 3) (hnm : names = (["a", "b", "c"] : List Str).take cols.length) (hc : ∀ c ∈ cols, (c.k = "integer" ∨ c.k = "character") ∧ c.items.length = high ∧ PyData.canLayAll0 c.items = true) : FrOk ⟨cols, names, "integer", marksI high⟩ high := by
  refine ⟨⟨fun c hm => (hc c hm).1, fun d hd => ?_, ?_⟩, h, hn, fun c hm => (hc c hm).2.1, by simp [marksI], ?_, fun c hm => (hc c hm).2.2, ?_, ?_, .inl rfl⟩
  · obtain ⟨i, hi, rfl⟩ := List.mem_map.mp hd
    have := List.mem_range.mp hi
    exact .inl ⟨rfl, _, rfl, by (first | lia | omega)⟩
  · show ∀ d ∈ marksI high, (labT "integer" d).length ≤ 100
    rcases (by (first | lia | omega) : high = 0 ∨ high = 1 ∨ high = 2 ∨ high = 3 ∨ high = 4 ∨ high = 5 ∨ high = 6) with rfl | rfl | rfl | rfl | rfl | rfl | rfl <;> decide +kernel
  · show ((marksI high).map (labT "integer")).Nodup
    rcases (by (first | lia | omega) : high = 0 ∨ high = 1 ∨ high = 2 ∨ high = 3 ∨ high = 4 ∨ high = 5 ∨ high = 6) with rfl | rfl | rfl | rfl | rfl | rfl | rfl <;> decide +kernel
  · show PyData.canLayAll0 (marksI high) = true
    rcases (by (first | lia | omega) : high = 0 ∨ high = 1 ∨ high = 2 ∨ high = 3 ∨ high = 4 ∨ high = 5 ∨ high = 6) with rfl | rfl | rfl | rfl | rfl | rfl | rfl <;> decide +kernel
  · show PyData.canLayAll0 (names.map .str) = true
    rw [hnm]
    rcases (by (first | lia | omega) : cols.length = 1 ∨ cols.length = 2 ∨ cols.length = 3) with e | e | e <;> rw [e] <;> decide +kernel
theorem marksC_ok {cols : List Col} {names : List Str} {high : Nat} (h : high ≤ 6) (hn : 1 ≤ cols.length ∧ cols.length ≤ 3) (hnm : names = (["a", "b", "c"] : List Str).take cols.length) (hc : ∀ c ∈ cols, (c.k = "integer" ∨ c.k = "character") ∧ c.items.length = high ∧ PyData.canLayAll0 c.items = true) : FrOk ⟨cols, names, "character", marksC high⟩ high := by
  refine ⟨⟨fun c hm => (hc c hm).1, fun d hd => ?_, ?_⟩, h, hn, fun c hm => (hc c hm).2.1, by simp [marksC], ?_, fun c hm => (hc c hm).2.2, ?_, ?_, .inr rfl⟩
  · obtain ⟨i, hi, rfl⟩ := List.mem_map.mp hd
    exact .inr ⟨rfl, _, rfl⟩
  · show ∀ d ∈ marksC high, (labT "character" d).length ≤ 100
    rcases (by (first | lia | omega) : high = 0 ∨ high = 1 ∨ high = 2 ∨ high = 3 ∨ high = 4 ∨ high = 5 ∨ high = 6) with rfl | rfl | rfl | rfl | rfl | rfl | rfl <;> decide +kernel
  · show ((marksC high).map (labT "character")).Nodup
    rcases (by (first | lia | omega) : high = 0 ∨ high = 1 ∨ high = 2 ∨ high = 3 ∨ high = 4 ∨ high = 5 ∨ high = 6) with rfl | rfl | rfl | rfl | rfl | rfl | rfl <;> decide +kernel
  · show PyData.canLayAll0 (marksC high) = true
    rcases (by (first | lia | omega) : high = 0 ∨ high = 1 ∨ high = 2 ∨ high = 3 ∨ high = 4 ∨ high = 5 ∨ high = 6) with rfl | rfl | rfl | rfl | rfl | rfl | rfl <;> decide +kernel
  · show PyData.canLayAll0 (names.map .str) = true
    rw [hnm]
    rcases (by (first | lia | omega) : cols.length = 1 ∨ cols.length = 2 ∨ cols.length = 3) with e | e | e <;> rw [e] <;> decide +kernel
theorem Lfs.take {vs : List Value} {ds : List PyData} (x : Lfs vs ds) : ∀ k : Nat, Lfs (vs.take k) (ds.take k) := by
  induction x with
  | nil => intro k; simp; exact .nil
  | cons a b ih =>
    intro k
    cases k with
    | zero => exact .nil
    | succ k => exact .cons a (ih k)
theorem c_frame {C : Cx} {A : Around} {P : Heap} {fr : Own} {h : Heap} {ci : Addr} {o : Obj} {N : Nat} {n : Nat} (rm : Rm A (n + 5)) (S : Sep C P ((ci, o) :: fr) h) (hc : Cis C P N o) (hN : N ≤ 800) :
    W C A (call (.ref 355) [.ref ci]) (fun v h' => ∃ P' o' own, Ext P P' ∧ Sep C P' ((ci, o') :: (own ++ fr)) h' ∧ (Cis C P' (N + 50) o' ∧ own = [] ∧ ∃ (tp x : Addr) (t : Tok) (high n : Nat) (f : Fm), v = .ref tp ∧ P'.get? tp = some (TO [.ref x, .int high t] n) ∧ FrameAt C P' x f ∧ FrOk f high)) h := by
  refine (WK.w ?_)
  refine' k_defC (binds := [("cistern", .ref ci)]) S rm ?ho ?hcd ?hb ?hl ?hc ?h6 ?h7 ?h8 ?_
  walk_at "sidesC"
  intro L h1 cells S1 _ Y
  obtain ⟨o1, o2, rfl, d1, d2⟩ := CellsAre.two Y
  replace d1 : o1.data = .cell none := d1.trans (by with_unfolding_all rfl)
  replace d2 : o2.data = .cell (some (.ref ci)) := d2.trans (by with_unfolding_all rfl)
  replace S1 : St C P ((L + 1 + 1, o1) :: (L + 1, o2) :: (ci, o) :: fr) L (fun _ => none) h1 := by with_unfolding_all exact S1
  walk_at "w"
  rename_i t7
  refine S1.callM (i := 2) rfl (fun fr' S' => c_ladle (n := n) (k := 7) (t := t7) rm.deeper.up S' hc (by (first | lia | omega)) (by decide) (by decide)) fun v P1 oA h2 e1 S2 hx9 => ?_
  obtain ⟨hc1, high, hhi, t4, ev⟩ := hx9
  subst ev
  refine w_st_cell (i := 0) S2 (by with_unfolding_all rfl) rfl d1 (fun h3 o3 d3 S3 => ?_) (by with_unfolding_all rfl) (by with_unfolding_all rfl)
  replace S3 : St C P1 ((L + 1 + 1, o3) :: (L + 1, o2) :: (ci, oA) :: fr) L (fun _ => none) h3 := S3
  walk_at "w"
  refine w_acomp0 rm.deeper.handled (.name _ _) (by with_unfolding_all rfl) rfl (by decide) (fun _ => rfl) (by with_unfolding_all rfl) (by with_unfolding_all rfl) rfl ?_
  walk_at "w"
  rename_i t8 _ t9
  refine S3.callM (i := 2) rfl (fun fr' S' => c_ladle (n := n) (k := 3) (t := t9) rm.deeper.up S' hc1 (by (first | lia | omega)) (by decide) (by decide)) fun v P2 oB h2 e2 S4 hx9 => ?_
  obtain ⟨hc2, nc, hnc, t10, ev⟩ := hx9
  subst ev
  replace S4 : St C P2 ((L + 1 + 1, o3) :: (L + 1, o2) :: (ci, oB) :: fr) L (fun _ => none) _ := S4
  walk_at "w"
  refine w_range S4 (fun r t5 t6 t7 h4 S5 => ?_)
  refine w_iter_range (k := 1 + nc) S5 (S5.sep.own _ (.head _)) (by (first | lia | omega)) (by (first | lia | omega)) (fun I oI h5 ok it S6 e5 => ?_)
  replace S6 := ((S6.perm (List.Perm.swap ..)).drop).perm ((perm3 (ci, oB) (L + 1 + 1, o3) (L + 1, o2) fr).symm.cons _)
  refine ⟨_, _, _, I, oI, _, _, _, _, rfl, it, S6, ok, by rw [sizeLine_eq]; (first | lia | omega), fun i P' fr' ys => ∃ (cs : List CV) (cols : List Col) (o' : Obj), fr' = ownC C cs ++ (ci, o') :: (L + 1 + 1, o3) :: (L + 1, o2) :: fr ∧ ys = cs.map (fun c => .ref c.x) ∧ cs.length = i ∧ CIs C P' cs cols ∧
      (∀ c ∈ cols, (c.k = "integer" ∨ c.k = "character") ∧ c.items.length = high ∧ PyData.canLayAll0 c.items = true) ∧ Cis C P' (N + 2 + 11 * i) o', ⟨[], [], oB, ?_, rfl, rfl, .nil, (fun c hc => by simp at hc), hc2⟩, ?_, ?_, ?_⟩
  · rfl
  · intro i P' fr' ys G Lc mc h' e _ S
    trivial
  · rintro Lc i u P' fr' ys G mc h' hi ⟨tu, rfl⟩ e ⟨cs, cols, o', rfl, rfl, rfl, hcs, hck, hci⟩ hlen S
    refine Gn.in fun _ _ => ?_
    refine w_asg ?_
    walk_at "w"
    walk_at "S"
    refine S.callMO (i := cs.length) (a := ci) (o := o') (by simp) (fun fr' S' => c_column (n := n) (high := high) (t := t4) rm.deeper.up S' hci (by (first | lia | omega)) (by (first | lia | omega))) fun v P3 o4 own h6 e3 S7 hx9 => ?_
    obtain ⟨hc4, c, col, ev, eo, hcI, hck2, hcl, hcy⟩ := hx9
    subst ev; subst eo
    refine Gu (by assumption) ?_
    refine ⟨P3, ownC C (cs ++ [c]) ++ (ci, o4) :: (L + 1 + 1, o3) :: (L + 1, o2) :: fr, _, e3, ⟨cs ++ [c], cols ++ [col], o4, rfl, by simp, by simp, (hcs.ext e3).snoc hcI, ?_, hc4.le (by (first | lia | omega))⟩, S7.perm ?_⟩
    · intro c' hc'
      rcases List.mem_append.mp hc' with hc' | hc'
      · exact hck c' hc'
      · rw [List.mem_singleton.mp hc']; exact ⟨hck2, hcl, hcy⟩
    · have e9 : (ownC C cs ++ (ci, o') :: (L + 1 + 1, o3) :: (L + 1, o2) :: fr ++ G).set cs.length (ci, o4) = ownC C cs ++ (ci, o4) :: (L + 1 + 1, o3) :: (L + 1, o2) :: fr ++ G := by simp [List.set_append]
      rw [e9]
      simp only [ownC, List.map_append, List.map_cons, List.map_nil, List.append_assoc, List.cons_append, List.nil_append]
      exact List.perm_middle.symm
  · rintro P' fr' ys D n' e ⟨cs, cols, o', rfl, rfl, hcl, hcs, hck, hci⟩ hlen h' S
    replace S : St C P' ((D, LO (cs.map fun c => .ref c.x) n') :: (ownC C cs ++ (ci, o') :: (L + 1 + 1, o3) :: (L + 1, o2) :: fr)) L _ h' := S
    have hccl := hcs.length
    walk_at "w"
    rename_i tA tB tC
    refine w_newList S (fun b h3 S3 => ?_)
    walk_at "w"
    refine w_len (S3.sep.own (D, LO _ n') (.tail _ (.head _))) (by rw [List.length_map]; (first | lia | omega)) (fun t2 => ?_)
    refine ⟨_, _, _, _, S3, fun sl h4 S4 => ?_⟩
    rw [List.length_map] at S4
    refine w_lslice S4 (S4.sep.own (b, LO _ _) (.tail _ (.head _))) (S4.sep.own _ (.head _)) (Nat.le_of_ble_eq_true rfl) (fun W h5 S5 => ?_)
    replace S5 := (((S5.perm (List.Perm.swap ..)).drop).perm (List.Perm.swap ..)).drop
    walk_at "w"
    walk_at "S"
    obtain ⟨PD, eD, S5, hDW⟩ := S.freeze (own := [(W, LO (List.take cs.length [.str "a" tA, .str "b" tB, .str "c" tC]) 0), (D, LO (cs.map fun c => .ref c.x) n')])
    have hWw := hDW (W, LO (List.take cs.length [.str "a" tA, .str "b" tB, .str "c" tC]) 0) (.head _)
    have hDw := hDW (D, LO (cs.map fun c => .ref c.x) n') (.tail _ (.head _))
    replace S5 : St C PD (ownC C cs ++ (ci, o') :: (L + 1 + 1, o3) :: (L + 1, o2) :: fr) L _ _ := S5
    walk_at "w"
    refine w_comp0 L rm.deeper.handled (.name _ _) (by with_unfolding_all rfl) rfl (by decide) (fun _ => rfl) ?_
    walk_at "w"
    refine w_range S5 (fun r t5 t6 t7 h4 S6 => ?_)
    walk_at "w"
    refine w_iter_range (k := high) S6 (S6.sep.own _ (.head _)) rfl (by (first | lia | omega)) (fun I oI h5 ok it S7 e5 => ?_)
    replace S7 := (S7.perm (List.Perm.swap ..)).drop
    refine ⟨_, _, _, I, oI, _, _, _, _, rfl, it, S7, ok, by rw [sizeLine_eq]; (first | lia | omega), fun i P' fr' ys => fr' = ownC C cs ++ (ci, o') :: (L + 1 + 1, o3) :: (L + 1, o2) :: fr ∧ Lfs ys ((marksI high).take i), ⟨rfl, .nil⟩, ?_, ?_, ?_⟩
    · intro i P' fr' ys G Lc mc h' e _ S
      trivial
    · rintro Lc i u P' fr' ys G mc h' hi ⟨tu, rfl⟩ e ⟨rfl, hI⟩ hlen S
      have hmi : (marksI high).take (i + 1) = (marksI high).take i ++ [.int ((i : Int) + 1)] := by
        rw [List.take_add_one]
        simp [marksI, hi]
      refine Gn.in fun _ _ => ?_
      refine w_asg ?_
      walk_at "w"
      (try refine Gu (by assumption) ?_)
      exact ⟨_, _, _, Ext.rfl, ⟨rfl, by rw [hmi]; exact hI.append (.cons (by rw [Int.zero_add]; exact .int _ _) .nil)⟩, by assumption⟩
    rintro P5 fr' ys D5 n5 e5 ⟨rfl, hI⟩ hlen h' S
    replace S : St C P5 ((D5, LO ys n5) :: (ownC C cs ++ (ci, o') :: (L + 1 + 1, o3) :: (L + 1, o2) :: fr)) L _ h' := S
    rw [List.take_of_length_le (by simp [marksI])] at hI
    walk_at "w"
    refine S.callO (fun fr' S'' => c_integer (n := n) rm.deeper.up S'' (S.sep.own (D5, LO ys n5) (.head _)) (by (first | lia | omega))) fun v' P7 own h11 e7 S12 hx9 => ?_
    obtain ⟨x', dx', it', n', t1, t2, t3, t4', t5, t, ev, hx', hit', ho'⟩ := hx9
    subst ev; subst ho'
    obtain ⟨P8, e8, S13, hF8⟩ := S12.freeze (own := [(dx', VD C t1 t2 t3 t4' t5 (.str "integer" t) (.ref it') .none (.bool false) (.bool false)), (D5, LO ys n5)]) (fr := ownC C cs ++ (ci, o') :: (L + 1 + 1, o3) :: (L + 1, o2) :: fr)
    have hPl : Plain C P8 x' "integer" (marksI high) := ⟨⟨x', dx', it', t1, t2, t3, t4', t5, t, "integer", .none, .bool false, .bool false⟩, rfl, rfl, rfl, e8 _ _ hx', hF8 (dx', _) (.head _), ys, n', e8 _ _ hit', hI, by (first | lia | omega)⟩
    walk_at "w"
    walk_at "S"
    rename_i t12
    refine S.callM (i := cs.length) (a := ci) (o := o') (by simp) (fun fr' S' => c_ladle (n := n) (k := 2) (t := t12) rm.deeper.up S' (hci.ext ((eD.trans e5).trans (e7.trans e8))) (by (first | lia | omega)) (by decide) (by decide)) fun v P3 o4 h6 e3 S7 hx9 => ?_
    obtain ⟨hc4, r2, hr2, t13, ev⟩ := hx9
    subst ev
    rw [show (ownC C cs ++ (ci, o') :: (L + 1 + 1, o3) :: (L + 1, o2) :: fr).set cs.length (ci, o4) = ownC C cs ++ (ci, o4) :: (L + 1 + 1, o3) :: (L + 1, o2) :: fr by simp] at S7
    have eA := (eD.trans e5).trans ((e7.trans e8).trans e3)
    walk_at "w"
    refine ⟨fun c => ?_, fun c => ?_⟩
    · walk_at "w"
      refine w_comp0 L rm.deeper.handled (.name _ _) (by with_unfolding_all rfl) rfl (by decide) (fun _ => rfl) ?_
      walk_at "w"
      refine w_range S7 (fun r t5 t6 t7 h4 S6 => ?_)
      walk_at "w"
      refine w_iter_range (k := high) S6 (S6.sep.own _ (.head _)) rfl (by (first | lia | omega)) (fun I oI h5 ok it S7 eI => ?_)
      replace S7 := (S7.perm (List.Perm.swap ..)).drop
      refine ⟨_, _, _, I, oI, _, _, _, _, rfl, it, S7, ok, by rw [sizeLine_eq]; (first | lia | omega), fun i P' fr' ys => fr' = ownC C cs ++ (ci, o4) :: (L + 1 + 1, o3) :: (L + 1, o2) :: fr ∧ Lfs ys ((marksC high).take i), ⟨rfl, .nil⟩, ?_, ?_, ?_⟩
      · intro i P' fr' ys G Lc mc h' e _ S
        trivial
      · rintro Lc i u P' fr' ys G mc h' hi ⟨tu, rfl⟩ e ⟨rfl, hI⟩ hlen S
        have hmi : (marksC high).take (i + 1) = (marksC high).take i ++ [.str ("n" ++ Str.ofString (toString (Int.fmod (7 * (i : Int)) 11)))] := by
          rw [List.take_add_one]
          simp [marksC, hi]
        refine Gn.in fun _ _ => ?_
        refine w_asg ?_
        walk_at "w"
        refine w_mul (.of_left (by decide +kernel)) (fun t9 => ?_)
        walk_at "w"
        refine w_mod (by decide) (fun t9 => ?_)
        walk_at "w"
        have f0 : 0 ≤ (7 * (0 + (i : Int))).fmod 11 := Int.fmod_nonneg_of_pos _ (by decide)
        have f1 : (7 * (0 + (i : Int))).fmod 11 < 11 := Int.fmod_lt_of_pos _ (by decide)
        refine w_str_int (by (first | lia | omega)) (fun t9 => ?_)
        walk_at "w"
        refine w_adds ?_ (fun t9 => ?_)
        · rw [show (7 * (0 + (i : Int))).fmod 11 = (((7 * (0 + (i : Int))).fmod 11).toNat : Int) by (first | lia | omega)]
          have := num_len (k := ((7 * (0 + (i : Int))).fmod 11).toNat) (by (first | lia | omega))
          unfold num at this
          rw [sizeLine_eq, show (Str.ofString "n").length = 1 by decide]
          (first | lia | omega)
        · refine Gu (by assumption) ?_
          exact ⟨_, _, _, Ext.rfl, ⟨rfl, by rw [hmi]; exact hI.append (.cons (by rw [Int.zero_add]; exact .str _ _) .nil)⟩, by assumption⟩
      rintro P5' fr' ys' D5' n5' e5' ⟨rfl, hI'⟩ hlen' h' S
      replace S : St C P5' ((D5', LO ys' n5') :: (ownC C cs ++ (ci, o4) :: (L + 1 + 1, o3) :: (L + 1, o2) :: fr)) L _ h' := S
      rw [List.take_of_length_le (by simp [marksC])] at hI'
      walk_at "w"
      refine S.callO (fun fr' S'' => c_character (n := n) rm.deeper.up S'' (S.sep.own (D5', LO ys' n5') (.head _)) (by (first | lia | omega))) fun v' P7' own h11 e7' S12 hx9 => ?_
      obtain ⟨x'', dx'', it'', n'', u1, u2, u3, u4, u5, ut, ev, hx'', hit'', ho''⟩ := hx9
      subst ev; subst ho''
      obtain ⟨P8', e8', S13, hF8⟩ := S12.freeze (own := [(dx'', VD C u1 u2 u3 u4 u5 (.str "character" ut) (.ref it'') .none (.bool false) (.bool false)), (D5', LO ys' n5')]) (fr := ownC C cs ++ (ci, o4) :: (L + 1 + 1, o3) :: (L + 1, o2) :: fr)
      have hPl' : Plain C P8' x'' "character" (marksC high) := ⟨⟨x'', dx'', it'', u1, u2, u3, u4, u5, ut, "character", .none, .bool false, .bool false⟩, rfl, rfl, rfl, e8' _ _ hx'', hF8 (dx'', _) (.head _), ys', n'', e8' _ _ hit'', hI', by (first | lia | omega)⟩
      have eF := (e5'.trans e7').trans e8'
      walk_at "w"
      walk_at "S"
      have eB := eA.trans eF
      refine S.callC (own := ownC C cs) (fun fr' S' => c_new_frame (n := n) (names := (["a", "b", "c"] : List Str).take cs.length) rm.deeper.up S' (hcs.ext eB) ((((e5.trans (e7.trans e8)).trans e3).trans eF) _ _ hDw) (by (first | lia | omega)) ((((e5.trans (e7.trans e8)).trans e3).trans eF) _ _ hWw)
        (by rw [List.map_take]; exact Lfs.take (.cons (.str _ _) (.cons (.str _ _) (.cons (.str _ _) .nil))) _) (by rw [List.length_take]; exact Nat.le_trans (Nat.min_le_right _ _) (Nat.le_of_ble_eq_true rfl)) (hPl')) fun v' P9 h9 e9 S9 ⟨y, ev, hy⟩ => ?_
      subst ev
      walk_at "w"
      walk_at "S"
      obtain ⟨P10, e10, S10, hF⟩ := S.freeze1
      exact ⟨P10, o4, [], (((e1.trans e2).trans e).trans eB).trans (e9.trans e10), ((S10.perm (perm3 ..)).drop).drop.sep, (hc4.ext ((eF.trans e9).trans e10)).le (by (first | lia | omega)), rfl, _, y, _, high, 0, _, rfl, hF, hy.ext e10, marksC_ok (by (first | lia | omega)) ⟨by (first | lia | omega), by (first | lia | omega)⟩ (by rw [hccl]) hck⟩
    · walk_at "w"
      walk_at "w"
      walk_at "S"
      have eB := eA
      refine S.callC (own := ownC C cs) (fun fr' S' => c_new_frame (n := n) (names := (["a", "b", "c"] : List Str).take cs.length) rm.deeper.up S' (hcs.ext eB) (((e5.trans (e7.trans e8)).trans e3) _ _ hDw) (by (first | lia | omega)) (((e5.trans (e7.trans e8)).trans e3) _ _ hWw)
        (by rw [List.map_take]; exact Lfs.take (.cons (.str _ _) (.cons (.str _ _) (.cons (.str _ _) .nil))) _) (by rw [List.length_take]; exact Nat.le_trans (Nat.min_le_right _ _) (Nat.le_of_ble_eq_true rfl)) (hPl.ext e3)) fun v' P9 h9 e9 S9 ⟨y, ev, hy⟩ => ?_
      subst ev
      walk_at "w"
      walk_at "S"
      obtain ⟨P10, e10, S10, hF⟩ := S.freeze1
      exact ⟨P10, o4, [], (((e1.trans e2).trans e).trans eB).trans (e9.trans e10), ((S10.perm (perm3 ..)).drop).drop.sep, (hc4.ext (e9.trans e10)).le (by (first | lia | omega)), rfl, _, y, _, high, 0, _, rfl, hF, hy.ext e10, marksI_ok (by (first | lia | omega)) ⟨by (first | lia | omega), by (first | lia | omega)⟩ (by rw [hccl]) hck⟩

set_option maxHeartbeats 400000
section
variable {C : Cx} {A : Around} {P : Heap} {fr : Own} {L : Addr} {m : Str → Option Value} {h : Heap} {Q : Value → Heap → Prop}
theorem strsAre_of {C : Cx} {vs : List Value} : ∀ {ss : List Str}, vs.length = ss.length → (∀ (j : Nat) (v : Value), vs[j]? = some v → ∃ k, ss[j]? = some k ∧ (sk C).is k v = true) → StrsAre vs ss := by
  induction vs with
  | nil =>
    intro ss hl _
    cases ss with
    | nil => exact .nil
    | cons d ss => simp at hl
  | cons v vs ih =>
    intro ss hl hg
    cases ss with
    | nil => simp at hl
    | cons d ss =>
      obtain ⟨d', e, lf⟩ := hg 0 v rfl
      cases e
      obtain ⟨t, rfl⟩ := str_is lf
      exact .cons d t (ih (by simpa using hl) fun j v hv => hg (j + 1) v (by simpa using hv))
theorem lfs_of_strs {vs : List Value} {ss : List Str} (x : StrsAre vs ss) : Lfs vs (ss.map .str) := by
  induction x with
  | nil => exact .nil
  | cons _ _ _ ih => exact .cons (.str _ _) ih
theorem w_sorted_keys {d : Addr} {o : Obj} {kvs : List (Str × Value)} (hh : A.handled = none) (S : St C P fr L m h) (hd : (d == sysModules) = false) (x : DOb (sk C) o kvs) (e : h.get? d = some o) (hz : kvs.length ≤ 10)
    (q : ∀ D n ys ss' h', Lfs ys (ss'.map .str) → ss'.Perm (kvs.map (·.1)) → sortedS ss' = true → St C P ((D, LO ys n) :: fr) L m h' → Q (.ref D) h') : W C A (call (.builtin "sorted") [.ref d]) Q h := W.of fun k Q' g => by
  obtain ⟨a, es, ep, r⟩ := x
  have hat : h.DictAt (sk C) d kvs ep := ⟨o, es, e, a, r⟩
  refine kdu_sorted (kdl_dict (knd := sk C) (kvs := kvs) (ep := ep) hd) hh S.fr0 S.news0 hat (by rw [sizeLine_eq]; (first | lia | omega)) fun D h' tk vs F' N' hlt hlen hv => ?_
  have hoL := (N' _ (.head _)).1
  have hS : StrsAre vs (kvs.map (·.1)) := strsAre_of (C := C) (by simpa using hlen) fun j v hj => by
    obtain ⟨k, x, hx, hk⟩ := hv j v hj
    exact ⟨k, by simp [hx], hk⟩
  refine wpAny_call_entry slot_list_sort ⟨_, hoL, rfl⟩ entry_list_sort (list_sort_treeK strKind_oneLt hoL hS.keysOf (fun v₁ v₂ rest e => keyKind_strs (by rw [← e]; exact hS)) (by (first | lia | omega)) fun st' a1 a2 => ⟨_, rfl, ?_⟩) (args_list_sort _)
  obtain ⟨ss', b1, b2, b3⟩ := sorted_out_str hS a1 a2
  obtain ⟨ee, he⟩ := sortedHeap_at (vs := vs) (out := (arrOf st').map (·.2)) hoL
  have hx : Heap.ExtBut D h' (sortedHeap h' D vs ((arrOf st').map (·.2))) := fun b ob hb hob => by
    rw [sortedHeap_old hb (Heap.lt_size hob)]; exact hob
  have nL := (N' _ (.head _)).2.1
  refine g _ _ _ (q D ee ((arrOf st').map (·.2)).toList ss' _ (lfs_of_strs b1) b2 b3 (S.backN ⟨F'.ns.extBut hx (Ne.symm nL), fun b o e => (by rw [get_empty] at e; cases e), Nat.zero_le _⟩ (fun p hp => ?_) hlt))
  rcases List.mem_cons.mp hp with rfl | hp
  · exact ⟨by show _ = some (Obj.mk _ _ (Data.seq (((arrOf st').map (·.2)).toList.toArray) ee) _); rw [Array.toArray_toList]; exact he, nL, get_empty _⟩
  · have z := N' p (.tail _ hp)
    exact ⟨hx _ _ (Nat.ne_of_lt (hlt p hp)) z.1, z.2⟩
theorem two_sorted {ss : List Str} (h : ss.Perm (["levels", "class"] : List Str)) (hs : sortedS ss = true) : ss = (["class", "levels"] : List Str) := by
  have hl := h.length_eq
  obtain ⟨a, b, rfl⟩ : ∃ a b, ss = [a, b] := by
    match ss, hl with
    | [a, b], _ => exact ⟨a, b, rfl⟩
  have ha := h.mem_iff.mp (List.mem_cons_self (a := a) (l := [b]))
  have hb := h.mem_iff.mp (show b ∈ [a, b] by simp)
  have nd : [a, b].Nodup := h.nodup_iff.mpr (by decide +kernel)
  have hne : a ≠ b := by
    intro e; subst e; simp at nd
  simp only [List.mem_cons, List.not_mem_nil, or_false] at ha hb
  rcases ha with rfl | rfl <;> rcases hb with rfl | rfl
  · exact absurd rfl hne
  · exact absurd hs (by decide +kernel)
  · rfl
  · exact absurd rfl hne
end

set_option maxHeartbeats 400000
def wordsL : List PyData := [.tuple [.str "class", .list [.str "factor"]], .tuple [.str "levels", .list [.str "p", .str "q", .str "r"]]]
def wordsD (fac : Bool) : PyData := if fac then .list wordsL else .none
def colD (c : Col) : PyData := .tuple [.str c.k, .list c.items, wordsD c.fac]
def plainD (f : Fm) : PyData := .tuple [.list (f.cols.map colD), .str f.lk, .list f.labs, .list (f.names.map .str), .list [.str "data.frame"]]
def RowAt (C : Cx) (P : Heap) (tv : Value) (col : Col) : Prop :=
  ∃ ta n tk il vs vn wv as, tv = .ref ta ∧ P.get? ta = some (TO [.str col.k tk, .ref il, wv] n) ∧ P.get? il = some (LO vs vn) ∧ Lfs vs col.items ∧ vs.length ≤ 1000 ∧ Reads P wv (wordsD col.fac) as
inductive RowsAt (C : Cx) (P : Heap) : List Value → List Col → Prop
  | nil : RowsAt C P [] []
  | cons {v vs c cs} : RowAt C P v c → RowsAt C P vs cs → RowsAt C P (v :: vs) (c :: cs)
def ListAt (P : Heap) (v : Value) (ds : List PyData) : Prop := ∃ l vs n, v = .ref l ∧ P.get? l = some (LO vs n) ∧ Lfs vs ds ∧ vs.length ≤ 1000
def PlainAt (C : Cx) (P : Heap) (v : Value) (f : Fm) : Prop :=
  ∃ t n sl srows sn lt mv nv cv, v = .ref t ∧ P.get? t = some (TO [.ref sl, .str f.lk lt, mv, nv, cv] n) ∧ P.get? sl = some (LO srows sn) ∧ RowsAt C P srows f.cols ∧ srows.length ≤ 1000 ∧
    ListAt P mv f.labs ∧ ListAt P nv (f.names.map .str) ∧ ListAt P cv [.str "data.frame"]
section
variable {C : Cx} {P P' : Heap}
theorem RowAt.ext {v : Value} {c : Col} (x : RowAt C P v c) (e : Ext P P') : RowAt C P' v c := by
  obtain ⟨ta, n, tk, il, vs, vn, wv, as, h1, h2, h3, h4, h5, h6⟩ := x
  exact ⟨ta, n, tk, il, vs, vn, wv, as, h1, e _ _ h2, e _ _ h3, h4, h5, PyProof.Rows.Reads.keeps e h6⟩
theorem RowsAt.ext {vs : List Value} {cs : List Col} (x : RowsAt C P vs cs) (e : Ext P P') : RowsAt C P' vs cs := by
  induction x with
  | nil => exact .nil
  | cons a _ ih => exact .cons (a.ext e) ih
theorem RowsAt.snoc {vs : List Value} {cs : List Col} {v : Value} {c : Col} (x : RowsAt C P vs cs) (y : RowAt C P v c) : RowsAt C P (vs ++ [v]) (cs ++ [c]) := by
  induction x with
  | nil => exact .cons y .nil
  | cons a _ ih => exact .cons a ih
theorem RowsAt.length {vs : List Value} {cs : List Col} (x : RowsAt C P vs cs) : vs.length = cs.length := by
  induction x with
  | nil => rfl
  | cons _ _ ih => simp [ih]
theorem RowsAt.get {vs : List Value} {cs : List Col} (x : RowsAt C P vs cs) : ∀ {i : Nat} {c : Col}, cs[i]? = some c → ∃ v, vs[i]? = some v ∧ RowAt C P v c := by
  induction x with
  | nil => intro i c h; simp at h
  | cons a _ ih =>
    intro i b h
    cases i with
    | zero => cases h; exact ⟨_, rfl, a⟩
    | succ i => exact ih (by simpa using h)
theorem ListAt.ext {v : Value} {ds : List PyData} (x : ListAt P v ds) (e : Ext P P') : ListAt P' v ds := by
  obtain ⟨l, vs, n, h1, h2, h3⟩ := x
  exact ⟨l, vs, n, h1, e _ _ h2, h3⟩
theorem PlainAt.ext {v : Value} {f : Fm} (x : PlainAt C P v f) (e : Ext P P') : PlainAt C P' v f := by
  obtain ⟨t, n, sl, srows, sn, lt, mv, nv, cv, h1, h2, h3, h4, h5, h6, h7, h8⟩ := x
  exact ⟨t, n, sl, srows, sn, lt, mv, nv, cv, h1, e _ _ h2, e _ _ h3, h4.ext e, h5, h6.ext e, h7.ext e, h8.ext e⟩
theorem Lf.reads {v : Value} {d : PyData} (x : Lf v d) : Reads P v d [] := by
  cases x with
  | none => exact .none
  | int i t => exact .int i t
  | str s t => exact .str s t
theorem Lfs.reads {vs : List Value} {ds : List PyData} (x : Lfs vs ds) : ReadsAll P vs ds [] := by
  induction x with
  | nil => exact .nil
  | cons a _ ih => exact .cons (as := []) a.reads ih
theorem ListAt.reads {v : Value} {ds : List PyData} (x : ListAt P v ds) : ∃ as, Reads P v (.list ds) as := by
  obtain ⟨l, vs, n, rfl, h2, h3, _⟩ := x
  exact ⟨_, .list h2 rfl rfl (by simpa using h3.reads)⟩
theorem RowAt.reads {v : Value} {c : Col} (x : RowAt C P v c) : ∃ as, Reads P v (colD c) as := by
  obtain ⟨ta, n, tk, il, vs, vn, wv, as, rfl, h2, h3, h4, h5, h6⟩ := x
  exact ⟨_, .tuple h2 rfl rfl (by exact .cons (.str _ _) (.cons (.list h3 rfl rfl (by simpa using h4.reads)) (.cons h6 .nil)))⟩
theorem RowsAt.reads {vs : List Value} {cs : List Col} (x : RowsAt C P vs cs) : ∃ as, ReadsAll P vs (cs.map colD) as := by
  induction x with
  | nil => exact ⟨_, .nil⟩
  | cons a _ ih =>
    obtain ⟨as, h1⟩ := a.reads
    obtain ⟨bs, h2⟩ := ih
    exact ⟨_, .cons h1 h2⟩
theorem PlainAt.reads {v : Value} {f : Fm} (x : PlainAt C P v f) : ∃ as, Reads P v (plainD f) as := by
  obtain ⟨t, n, sl, srows, sn, lt, mv, nv, cv, rfl, h2, h3, h4, h5, h6, h7, h8⟩ := x
  obtain ⟨_, r4⟩ := h4.reads
  obtain ⟨_, r6⟩ := h6.reads
  obtain ⟨_, r7⟩ := h7.reads
  obtain ⟨_, r8⟩ := h8.reads
  exact ⟨_, .tuple h2 rfl rfl (by exact .cons (.list h3 rfl rfl (by simpa using r4)) (.cons (.str _ _) (.cons r6 (.cons r7 (.cons r8 .nil)))))⟩
end
theorem lfs_list {P : Heap} {l : Addr} {vs : List Value} {n : Nat} {ds : List PyData} (e : P.get? l = some (LO vs n)) (h : Lfs vs ds) : Reads P (.ref l) (.list ds) [l] := .list e rfl rfl (by simpa using h.reads)
theorem readsAll_snoc {h : Heap} {vs : List Value} {ds : List PyData} {as bs : List Addr} {v : Value} {d : PyData} (x : ReadsAll h vs ds as) (y : Reads h v d bs) : ∃ cs, ReadsAll h (vs ++ [v]) (ds ++ [d]) cs := by
  induction vs generalizing ds as with
  | nil => cases x; exact ⟨_, .cons y .nil⟩
  | cons v vs ih =>
    cases x with
    | cons a b =>
      obtain ⟨cs, z⟩ := ih b
      exact ⟨_, .cons a z⟩
theorem c_plain {C : Cx} {A : Around} {P : Heap} {fr : Own} {h : Heap} {x : Addr} {f : Fm} {n : Nat} (rm : Rm A (n + 2)) (S : Sep C P fr h) (hf : FrameAt C P x f) (hcz : f.cols.length ≤ 100) :
    W C A (call (.ref 367) [.ref x]) (fun v h' => ∃ P', Ext P P' ∧ Sep C P' fr h' ∧ PlainAt C P' v f) h := by
  obtain ⟨v, rfl, hx, hd, ⟨xs, xn, hxs, hcols, hxz⟩, hs, ⟨o, ho, hk⟩, hN, hC, hR⟩ := hf
  have hcl := hcols.length
  refine (WK.w ?_)
  refine' k_defC (binds := [("frame_now", .ref v.x)]) S rm ?ho ?hcd ?hb ?hl ?hc ?h6 ?h7 ?h8 ?_
  walk_at "sidesC"
  intro L h1 cells S1 _ Y
  obtain ⟨o1, rfl, d1⟩ := CellsAre.one Y
  replace S1 : St C P ((L + 1, o1) :: fr) L (bindL (fun x => if x = "column" then some NameKind.cell else some NameKind.local) [("frame_now", .ref v.x)] fun _ => none) h1 := by with_unfolding_all exact S1
  replace d1 : o1.data = .cell none := d1.trans (by with_unfolding_all rfl)
  walk_at "w"
  refine w_newList S1 (fun D h2 S2 => ?_)
  walk_at "w"
  refine w_for ?_
  walk_at "w"
  walk_at "g"
  walk_at "S"
  refine w_iter_list S (S.ext _ _ hxs) (fun I oI h4 ok it S4 e4 => ?_)
  refine WF.inv it S4 ok rm.deeper.handled (.name _ _) (fun i P' fr' m' => m' "frame_now" = some (.ref v.x) ∧ m' "said" = some (.ref D) ∧ ∃ oc cv ys n', fr' = (D, LO ys n') :: (L + 1, oc) :: fr ∧ oc.data = .cell cv ∧ ys.length = i ∧ RowsAt C P' ys (f.cols.take i))
      ⟨by with_unfolding_all rfl, by with_unfolding_all rfl, o1, none, _, _, rfl, d1, rfl, .nil⟩ ?_ ?_ ?_
  · intro i P' fr' m' G h' e _ S'
    exact isList_of (S'.ext _ _ (e _ _ hxs))
  · rintro i u P' fr' m' G h' hi hvi e ⟨m1, m2, oc, cv, ys, n', rfl, hoc, hyl, hys⟩ S'
    have hi' : i < xs.length := by simpa using hi
    rw [List.getElem?_map, List.getElem?_eq_getElem hi'] at hvi
    cases hvi
    obtain ⟨col, hcol, c, ecx, hcd, ek, hcx, ⟨vs, vn, hv, hvl, hvz⟩, hat⟩ := hcols.get (List.getElem?_eq_getElem hi')
    have e1 : f.cols.take (i + 1) = f.cols.take i ++ [col] := by
      rw [List.take_add_one, hcol]; simp
    rw [e1, ← ecx]
    have hcx' := e _ _ hcx
    have hcd' := e _ _ hcd
    refine Gn.in fun _ _ => ?_
    refine w_asg ?_
    refine w_st_cell (i := 1) S' (by with_unfolding_all rfl) rfl hoc (fun h5 o5 d5 S5 => ?_) (by with_unfolding_all rfl) (by with_unfolding_all rfl)
    replace S5 : St C P' ((D, LO ys n') :: (L + 1, o5) :: fr ++ G) L m' h5 := S5
    walk_at "w"
    rcases hat with ⟨hfc, ha⟩ | ⟨hfc, da, vl, vc, oa, ha, hsa, hoa, hka, hpl, hpc⟩
    · unfold CV.obj at hcd'
      rw [ha] at hcd'
      walk_at "g"
      walk_at "wd"
      walk_at "w"
      walk_at "S"
      refine w_m_append (S.sep.own _ (.head _)) ?_
      walk_at "w"
      walk_at "g"
      walk_at "w"
      walk_at "g"
      walk_at "w"
      walk_at "S"
      refine w_append (i := 1) S rfl (by rw [sizeLine_eq]; (first | lia | omega)) (fun h6 n6 S6 => ?_)
      walk_at "w"
      refine ⟨rfl, ?_⟩
      walk_at "w"
      obtain ⟨P9, e9, S9, hT⟩ := S6.freeze1
      refine ⟨.inl rfl, P9, (D, LO (ys ++ [_]) n6) :: (L + 1, o5) :: fr, _, e9, ?_, S9⟩
      exact ⟨by with_unfolding_all exact m1, by with_unfolding_all exact m2, o5, _, _, n6, rfl, d5, by simp [hyl], (hys.ext (e9)).snoc ⟨_, _, c.tk, c.it, vs, vn, _, _, rfl, by rw [← ek]; exact hT, (e.trans (e9)) _ _ hv, hvl, hvz, by rw [hfc]; exact .none⟩⟩
    · unfold CV.obj at hcd'
      rw [ha] at hcd'
      walk_at "g"
      walk_at "wd"
      refine w_comp0 L rm.deeper.handled (.name _ _) (by with_unfolding_all rfl) rfl (by decide) (fun _ => rfl) ?_
      walk_at "w"
      walk_at "g"
      walk_at "w"
      refine w_sorted_keys rm.deeper.handled S5 hsa hka (S5.ext _ _ (e _ _ hoa)) (Nat.le_of_ble_eq_true rfl) (fun K nK ks ss h6 hks hpm hso S6 => ?_)
      have hss := two_sorted hpm hso
      subst hss
      walk_at "w"
      refine w_iter_list S6 (S6.sep.own _ (.head _)) (fun I2 oI2 h7 ok2 it2 S7 e7 => ?_)
      have hksl : ks.length = 2 := hks.length
      refine ⟨_, _, _, I2, oI2, _, _, _, _, rfl, it2, S7, ok2, by rw [sizeLine_eq]; (first | lia | omega), fun j Pj fj zs => fj = (K, LO ks nK) :: (D, LO ys n') :: (L + 1, o5) :: fr ++ G ∧ ∃ as, ReadsAll Pj zs (wordsL.take j) as, ⟨rfl, _, .nil⟩, ?_, ?_, ?_⟩
      · intro j P' fr' ys G Lc mc h' e he S
        rw [he.1] at S
        exact isList_of (S.sep.own (K, LO ks nK) (.head _))
      · rintro Lc j kv P2 fr2 zs G2 mc h8 hj hkv e2 ⟨rfl, as, hza⟩ hzl S8
        have hj' : j = 0 ∨ j = 1 := by (first | lia | omega)
        rcases hj' with rfl | rfl
        · obtain ⟨⟨ax, adx, ait, t1, t2, t3, t4, t5, t, ak, aa, as1, al⟩, ex, ek2, ea, hax, had, avs, avn, hav, hal, haz⟩ := hpc
          dsimp only at ex ek2 ea hax had hav
          subst ex
          obtain ⟨kv', hkv', lf⟩ := hks.get (i := 0) rfl
          rw [hkv] at hkv'
          cases hkv'
          cases lf with
          | str _ t9 =>
          have hax' := (e.trans e2) _ _ hax
          have had' := (e.trans e2) _ _ had
          have hcx2 := e2 _ _ hcx'
          have hcd2 := e2 _ _ hcd'
          refine Gn.in fun _ _ => ?_
          refine w_asg ?_
          walk_at "w"
          walk_at "g"
          walk_at "w"
          refine w_ditem (v := .ref ax) hka (St.ext (by assumption) _ _ ((e.trans e2) _ _ hoa)) (strKind_is _ _ _ _) rfl ?_ (by with_unfolding_all rfl)
          walk_at "g"
          walk_at "w"
          walk_at "S"
          obtain ⟨P9, e9, S9, hT⟩ := S.freeze1
          obtain ⟨cs2, hz2⟩ := readsAll_snoc (ReadsAll.keeps e9 hza) (Reads.tuple hT rfl rfl (by exact .cons (.str _ _) (.cons (lfs_list (((e.trans e2).trans e9) _ _ hav) hal) .nil)))
          exact ⟨P9, _, _, e9, ⟨rfl, cs2, hz2⟩, S9⟩
        · obtain ⟨⟨ax, adx, ait, t1, t2, t3, t4, t5, t, ak, aa, as1, al⟩, ex, ek2, ea, hax, had, avs, avn, hav, hal, haz⟩ := hpl
          dsimp only at ex ek2 ea hax had hav
          subst ex
          obtain ⟨kv', hkv', lf⟩ := hks.get (i := 1) rfl
          rw [hkv] at hkv'
          cases hkv'
          cases lf with
          | str _ t9 =>
          have hax' := (e.trans e2) _ _ hax
          have had' := (e.trans e2) _ _ had
          have hcx2 := e2 _ _ hcx'
          have hcd2 := e2 _ _ hcd'
          refine Gn.in fun _ _ => ?_
          refine w_asg ?_
          walk_at "w"
          walk_at "g"
          walk_at "w"
          refine w_ditem (v := .ref ax) hka (St.ext (by assumption) _ _ ((e.trans e2) _ _ hoa)) (strKind_is _ _ _ _) rfl ?_ (by with_unfolding_all rfl)
          walk_at "g"
          walk_at "w"
          walk_at "S"
          obtain ⟨P9, e9, S9, hT⟩ := S.freeze1
          obtain ⟨cs2, hz2⟩ := readsAll_snoc (ReadsAll.keeps e9 hza) (Reads.tuple hT rfl rfl (by exact .cons (.str _ _) (.cons (lfs_list (((e.trans e2).trans e9) _ _ hav) hal) .nil)))
          exact ⟨P9, _, _, e9, ⟨rfl, cs2, hz2⟩, S9⟩
      · rintro P2 fr2 zs D2 n2 e2 ⟨rfl, as, hza⟩ hzl h8 S8
        obtain ⟨P8, e8, S10, hZ⟩ := S8.freeze (own := [(D2, LO zs n2), (K, LO ks nK)])
        have hZ2 := hZ (D2, LO zs n2) (.head _)
        have hzr : ReadsAll P8 zs wordsL as := ReadsAll.keeps e8 (by rw [List.take_of_length_le (by rw [hksl]; exact Nat.le_refl _)] at hza; exact hza)
        replace S10 : St C P8 ((D, LO ys n') :: (L + 1, o5) :: fr ++ G) L m' h8 := S10
        replace hcx' := (e2.trans e8) _ _ hcx'
        replace hcd' := (e2.trans e8) _ _ hcd'
        walk_at "w"
        walk_at "S"
        refine w_m_append (S.sep.own _ (.head _)) ?_
        walk_at "w"
        walk_at "g"
        walk_at "w"
        walk_at "g"
        walk_at "w"
        walk_at "S"
        refine w_append (i := 1) S rfl (by rw [sizeLine_eq]; (first | lia | omega)) (fun h6 n6 S6 => ?_)
        walk_at "w"
        refine ⟨rfl, ?_⟩
        walk_at "w"
        obtain ⟨P9, e9, S9, hT⟩ := S6.freeze1
        have eX := (e2.trans e8).trans e9
        refine ⟨.inl rfl, P9, (D, LO (ys ++ [_]) n6) :: (L + 1, o5) :: fr, _, eX, ?_, S9⟩
        exact ⟨by with_unfolding_all exact m1, by with_unfolding_all exact m2, o5, _, _, n6, rfl, d5, by simp [hyl], (hys.ext eX).snoc ⟨_, _, c.tk, c.it, vs, vn, _, _, rfl, by rw [← ek]; exact hT, (e.trans eX) _ _ hv, hvl, hvz, by rw [hfc]; exact .list (e9 _ _ hZ2) rfl rfl (by simpa using ReadsAll.keeps e9 hzr)⟩⟩
  · rintro P' fr' m' h' e ⟨m1, m2, oc, cv, ys, n', rfl, hoc, hyl, hys⟩ S'
    rw [List.take_of_length_le (by rw [List.length_map]; (first | lia | omega))] at hys
    rw [List.length_map] at hyl
    obtain ⟨⟨nx, ndx, nit, u1, u2, u3, u4, u5, ut, nk, na, ns, nl⟩, ex, ek, ea, hnx, hnd, nvs, nvn, hnv, hnl, hnz⟩ := hN
    dsimp only at ex ek ea hnx hnd hnv
    obtain ⟨⟨cx, cdx, cit, w1, w2, w3, w4, w5, wt, ck, ca, cs, cl⟩, ex2, ek2, ea2, hcx, hcd, cvs, cvn, hcv, hcl2, hcz2⟩ := hC
    dsimp only at ex2 ek2 ea2 hcx hcd hcv
    obtain ⟨⟨rx, rdx, rit, r1, r2, r3, r4, r5, rt, rk, ra, rs, rl⟩, ex3, ek3, ea3, hrx, hrd, rvs, rvn, hrv, hrl, hrz⟩ := hR
    dsimp only at ex3 ek3 ea3 hrx hrd hrv
    have hx' := e _ _ hx
    have hd' := e _ _ hd
    have hnx' := e _ _ hnx
    have hnd' := e _ _ hnd
    have hcx' := e _ _ hcx
    have hcd' := e _ _ hcd
    have hrx' := e _ _ hrx
    have hrd' := e _ _ hrd
    walk_at "w"
    walk_at "g"
    walk_at "w"
    refine w_ditem (v := .ref rx) hk (St.ext (by assumption) _ _ (e _ _ ho)) (strKind_is _ _ _ _) (by rw [ex3]; rfl) ?_ (by with_unfolding_all rfl)
    walk_at "w"
    walk_at "g"
    walk_at "w"
    walk_at "g"
    walk_at "w"
    walk_at "g"
    walk_at "w"
    refine w_ditem (v := .ref nx) hk (St.ext (by assumption) _ _ (e _ _ ho)) (strKind_is _ _ _ _) (by rw [ex]; rfl) ?_ (by with_unfolding_all rfl)
    walk_at "g"
    walk_at "w"
    walk_at "g"
    walk_at "w"
    refine w_ditem (v := .ref cx) hk (St.ext (by assumption) _ _ (e _ _ ho)) (strKind_is _ _ _ _) (by rw [ex2]; rfl) ?_ (by with_unfolding_all rfl)
    walk_at "g"
    walk_at "w"
    walk_at "S"
    obtain ⟨P9, e9, S9, hT⟩ := S.freeze (own := [(_, TO [.ref D, .str rk rt, .ref rit, .ref nit, .ref cit] 0), (D, LO ys n'), (L + 1, oc)])
    have eX := e.trans e9
    exact ⟨P9, eX, S9.sep, _, 0, D, ys, n', rt, .ref rit, .ref nit, .ref cit, rfl, by rw [← ek3]; exact hT _ (.head _), hT (D, _) (.tail _ (.head _)), hys.ext e9, by (first | lia | omega), ⟨rit, rvs, rvn, rfl, eX _ _ hrv, hrl, hrz⟩, ⟨nit, nvs, nvn, rfl, eX _ _ hnv, hnl, hnz⟩, ⟨cit, cvs, cvn, rfl, eX _ _ hcv, hcl2, hcz2⟩⟩

section
variable {C : Cx} {A : Around} {P : Heap} {fr : Own} {L : Addr} {m : Str → Option Value} {h : Heap} {env : Env} {pos : Pos} {Q : Value → Heap → Prop} {Qu : Unit → Heap → Prop} {Qf : Flow → Heap → Prop}
theorem w_unpack {elts : List Expr} {k : Nat} {t : Addr} {vs : List Value} {n : Nat} (hh : A.handled = none) (S : St C P fr L m h) (e : h.get? t = some (TO vs n)) (hn : (assignEach elts env).length = vs.length) (hstar : (assignEach elts env).findIdx? (·.1) = none)
    (q : ∀ h', St C P fr L m h' → W C A (assignInOrder ((assignEach elts env).map (·.2)) vs) Qu h') : W C A (assign (.Tuple elts k pos) env (.ref t)) Qu h :=
  W.of fun _ _ g => unpackN_ S.fr0 S.news0 (isTup_of e) hh (by simpa using hn) hstar fun h' F N => (q h' (S.back0 F N)).use g
theorem w_as0 (q : Qu () h) : W C A (assignInOrder ((assignEach [] env).map (·.2)) []) Qu h := W.of fun _ _ g => wpAny_assignInOrder_none (g _ _ _ q)
theorem w_as1 {e : Expr} {es : List Expr} {v : Value} {vs : List Value} (q : W C A (assign e env v) (fun _ h1 => W C A (assignInOrder ((assignEach es env).map (·.2)) vs) Qu h1) h)
    (he : assignEach (e :: es) env = (false, assign e env) :: assignEach es env := by with_unfolding_all rfl) : W C A (assignInOrder ((assignEach (e :: es) env).map (·.2)) (v :: vs)) Qu h := W.of fun _ _ g => by
  rw [he]
  exact assignInOrder_cons (q.use fun _ _ _ q => q.use g)
/-- a name is bound to a comprehension with one cell of its own -/
theorem w_acomp1 {x : Str} {p' : Pos} {elt target iter : Expr} {scope : Scope} {cl : List (Str × Addr)} {cpos : Pos} {cx : Str} (hh : A.handled = none) (ht : Tgt target) (hclos : closureFor scope env = pure cl) (hk : scope.kind = .function)
    (hn : ∀ x ∈ scope.names, x.2 = .local → scope.names.lookup x.1 = some .local) (hc1 : ∀ n, cellsFrom n scope.names cl = (cx, n) :: cl)
    (hsw : swapsWith (.ListComp elt [⟨target, iter, [], 0⟩] scope cpos) (some (.Name x p')) pos.line env = pure true)
    (hx : env.kindOf x = some .local) (hke : env.scope.kind = .function)
    (q : W C A (eval iter env) (fun x' h₁ => W C A (pyIter x') (fun itv h₂ => ∃ P fr m I o n val Ok need, itv = .ref I ∧ Itr C I n val Ok need ∧ St C P ((I, o) :: fr) env.locals m h₂ ∧ Ok 0 o ∧ n ≤ sizeLine ∧
      ∀ Lc oc, oc.data = .cell none → ∃ Inv : Nat → Heap → Own → List Value → Prop, Inv 0 P ((Lc + 1, oc) :: fr) [] ∧
        (∀ i P' fr' ys G mc h', Ext P P' → Inv i P' fr' ys → St C P' (fr' ++ G) Lc mc h' → need h') ∧
        (∀ i v P' fr' ys G mc h', i < n → val i v → Ext P P' → Inv i P' fr' ys → ys.length = i → St C P' (fr' ++ G) Lc mc h' →
          Gn (fun y h2 => ∃ P'' fr'' mc', Ext P' P'' ∧ Inv (i + 1) P'' fr'' (ys ++ [y]) ∧ St C P'' (fr'' ++ G) Lc mc' h2) fun Q9 => W C A (assign target (cenvOf scope env Lc ((cx, Lc + 1) :: cl)) v) (fun _ h1 => W C A (eval elt (cenvOf scope env Lc ((cx, Lc + 1) :: cl))) Q9 h1) h') ∧
        (∀ P' fr' ys D n' h', Ext P P' → Inv n P' fr' ys → ys.length = n → St C P' ((D, LO ys n') :: fr') env.locals (fun y => if y = x then some (.ref D) else m y) h' → Qf .next h')) h₁) h)
    (hs : ∀ x, foldedSetIterable iter env x = pure x := by intro _; with_unfolding_all rfl) :
    W C A (exec (.Assign [.Name x p'] (.ListComp elt [⟨target, iter, [], 0⟩] scope cpos) pos) env) Qf h := by
  refine w_acomp hh ht hclos hk hn hsw hx hke (q.mono fun x h₁ q1 => q1.mono fun itv h₂ q2 => ?_) hs
  obtain ⟨P, fr, m, I, o, n, val, Ok, need, e, it, S, ok, hz, ob⟩ := q2
  refine ⟨P, fr, m, I, o, n, val, Ok, need, e, it, S, ok, hz, fun Lc cs own hc he => ?_⟩
  rw [hc1] at he
  have hcs : cs = [(cx, Lc + 1)] := List.append_cancel_right (bs := cl) (cs := [(cx, Lc + 1)]) he
  subst hcs
  obtain ⟨oc, rfl, hoc⟩ := CellsAre.one hc
  obtain ⟨Inv, i0, hneed, turn, fin⟩ := ob Lc oc hoc
  exact ⟨fun P' fr' ys => Inv n P' fr' ys ∧ ys.length = n, ⟨⟨Inv, i0, fun i P' fr' ys G mc h' => hneed i P' fr' ys G mc h', fun i v P' fr' ys G mc h' => turn i v P' fr' ys G mc h', fun _ _ _ _ a b => ⟨a, b⟩⟩⟩,
    fun P' fr' ys D n' h' e' f => fin P' fr' ys D n' h' e' f.1 f.2⟩
end

local macro_rules | `(tactic| walk_at "s") => `(tactic| first
  | (with_reducible refine w_as1 ?_ (by with_unfolding_all rfl))
  | (with_reducible refine w_as0 ?_)
  | (with_reducible refine w_asg ?_))

set_option maxHeartbeats 400000
theorem c_moved {C : Cx} {A : Around} {P : Heap} {fr : Own} {h : Heap} {x pl : Addr} {f : Fm} {pvs : List Value} {ps : List Nat} {pn n high : Nat} (rm : Rm A (n + 3)) (S : Sep C P fr h) (hf : FrameAt C P x f) (hcz : f.cols.length ≤ 100)
    (hp : P.get? pl = some (LO pvs pn)) (hl : Lfs pvs ((ps.map some).map plD)) (hz : pvs.length ≤ 100) (hps : ∀ p ∈ ps, p < high) (hlab : f.labs.length = high) (hit : ∀ c ∈ f.cols, c.items.length = high) (hh9 : high ≤ 100) :
    W C A (call (.ref 372) [.ref x, .ref pl]) (fun v h' => ∃ P', Ext P P' ∧ Sep C P' fr h' ∧ PlainAt C P' v ⟨f.cols.map (pickCol (ps.map some)), f.names, f.lk, (ps.map some).map (pickD f.labs)⟩) h := by
  have hpl : pvs.length = ps.length := by simpa using hl.length
  refine (WK.w ?_)
  refine' k_defC (binds := [("frame_now", .ref x), ("places", .ref pl)]) S rm ?ho ?hcd ?hb ?hl ?hc ?h6 ?h7 ?h8 ?_
  walk_at "sidesC"
  intro L h1 cells S1 _ Y
  obtain ⟨o1, o2, rfl, d1, d2⟩ := CellsAre.two Y
  replace d1 : o1.data = .cell none := d1.trans (by with_unfolding_all rfl)
  replace d2 : o2.data = .cell (some (.ref pl)) := d2.trans (by with_unfolding_all rfl)
  replace S1 : St C P ((L + 1 + 1, o1) :: (L + 1, o2) :: fr) L (bindL (fun x => if x = "places" then some NameKind.cell else some NameKind.local) [("frame_now", .ref x), ("places", .ref pl)] fun _ => none) h1 := by with_unfolding_all exact S1
  walk_at "w"
  refine w_settup ?_ (by with_unfolding_all rfl) (by with_unfolding_all rfl)
  walk_at "w"
  refine S1.call (fun fr' S' => c_plain (n := n) rm.deeper.up S' hf hcz) fun v' P2 h2 e2 S2 hx9 => ?_
  obtain ⟨t, tn, sl, srows, sn, lt, mv, nv, cv, ev, ht, hsl, hrows, hrz, hmv, hnv, hcv⟩ := hx9
  subst ev
  refine w_unpack rm.deeper.handled S2 (S2.ext _ _ ht) (by with_unfolding_all rfl) (by with_unfolding_all rfl) (fun h3 S3 => ?_)
  walk_at "w"
  walk_at "S"
  refine w_st_cell (i := 0) S (by with_unfolding_all rfl) rfl d1 (fun h4 o3 d3 S4 => ?_) (by with_unfolding_all rfl) (by with_unfolding_all rfl)
  replace S4 : St C P2 ((L + 1 + 1, o3) :: (L + 1, o2) :: fr) L _ h4 := S4
  walk_at "w"
  refine w_acomp1 (cx := "items") rm.deeper.handled (.tup _ _ _) (by with_unfolding_all rfl) rfl (by decide) (fun _ => rfl) (by with_unfolding_all rfl) (by with_unfolding_all rfl) rfl ?_
  walk_at "w"
  walk_at "S"
  refine w_iter_list S (S.ext _ _ hsl) (fun I oI h5 ok it S5 e5 => ?_)
  have hrl := hrows.length
  refine ⟨_, _, _, I, oI, _, _, _, _, rfl, it, S5, ok, by rw [sizeLine_eq]; (first | lia | omega), fun Lc oc hoc => ⟨fun i P' fr' ys => ∃ oc cv, fr' = (Lc + 1, oc) :: (L + 1 + 1, o3) :: (L + 1, o2) :: fr ∧ oc.data = .cell cv ∧ RowsAt C P' ys ((f.cols.take i).map (pickCol (ps.map some))), ⟨oc, none, rfl, hoc, .nil⟩, ?_, ?_, ?_⟩⟩
  · intro i P' fr' ys G mc h' e _ S
    exact isList_of (S.ext _ _ (e _ _ hsl))
  · rintro i u P' fr' ys G mc h' hi hvi e ⟨oc, cv, rfl, hoc, hys⟩ hlen S
    have hi' : i < f.cols.length := by (first | lia | omega)
    have hci : f.cols[i]? = some f.cols[i] := List.getElem?_eq_getElem hi'
    obtain ⟨u', hu, ta, an, atk, il, vs, vn, wv, as, eu, hta, hil, hvl, hvz, hwr⟩ := hrows.get hci
    rw [hvi] at hu
    cases hu
    subst eu
    have hcl := hit _ (List.getElem_mem hi')
    have e1 : (f.cols.take (i + 1)).map (pickCol (ps.map some)) = (f.cols.take i).map (pickCol (ps.map some)) ++ [pickCol (ps.map some) f.cols[i]] := tk1 _ _ _ hi'
    generalize f.cols[i] = col at *
    have hvl2 := hvl.length
    refine Gn.in fun _ _ => ?_
    refine w_unpack rm.deeper.handled S (S.ext _ _ (e _ _ hta)) (by with_unfolding_all rfl) (by with_unfolding_all rfl) (fun h6 S6 => ?_)
    walk_at "w"
    walk_at "S"
    refine w_st_cell (i := 0) S (by with_unfolding_all rfl) rfl hoc (fun h7 o7 d7 S7 => ?_) (by with_unfolding_all rfl) (by with_unfolding_all rfl)
    replace S7 : St C P' ((Lc + 1, o7) :: (L + 1 + 1, o3) :: (L + 1, o2) :: fr ++ G) Lc _ h7 := S7
    walk_at "w"
    refine w_comp0 Lc rm.deeper.handled (.name _ _) (by with_unfolding_all rfl) rfl (by decide) (fun _ => rfl) ?_
    walk_at "w"
    walk_at "S"
    refine w_iter_list S (S.ext _ _ ((e2.trans e) _ _ hp)) (fun I2 oI2 h8 ok2 it2 S8 e8 => ?_)
    refine ⟨_, _, _, I2, oI2, _, _, _, _, rfl, it2, S8, ok2, by rw [sizeLine_eq]; (first | lia | omega), fun j Pj fj zs => fj = (Lc + 1, o7) :: (L + 1 + 1, o3) :: (L + 1, o2) :: fr ++ G ∧ Lfs zs (((ps.map some).map (pickD col.items)).take j), ⟨rfl, .nil⟩, ?_, ?_, ?_⟩
    · intro j P3 fr3 ys G Lc mc h' e3 he S
      exact isList_of (S.ext _ _ ((e.trans e3) _ _ (e2 _ _ hp)))
    · rintro L2 j kv P3 fr3 zs G2 mc h9 hj hkv e3 ⟨rfl, hzs⟩ hzl S9
      have hj' : j < ps.length := by (first | lia | omega)
      obtain ⟨q, hq, lf⟩ := hl.get (i := j) (d := plD (some ps[j])) (by simp [hj'])
      rw [hkv] at hq
      cases hq
      have hpj := hps _ (List.getElem_mem hj')
      have e4 : ((ps.map some).map (pickD col.items)).take (j + 1) = ((ps.map some).map (pickD col.items)).take j ++ [pickD col.items (some ps[j])] := by
        rw [List.take_add_one]
        simp [hj']
      generalize ps[j] = p at *
      cases lf with
      | int _ t9 =>
      have hpc : p < col.items.length := by (first | lia | omega)
      obtain ⟨y, hy, ly⟩ := hvl.get (i := p) (d := pickD col.items (some p)) (by
        show _ = some ((col.items[p]?).getD .none)
        rw [List.getElem?_eq_getElem hpc]; rfl)
      walk_at "w"
      refine w_item (St.ext (by assumption) _ _ ((e.trans e3) _ _ hil)) (by (first | lia | omega)) (by (first | lia | omega)) (by simpa using hy) ?_
      (try refine Gu (by assumption) ?_)
      exact ⟨_, _, _, Ext.rfl, ⟨rfl, by rw [e4]; exact hzs.append (.cons ly .nil)⟩, by assumption⟩
    · rintro P3 fr3 zs D2 n2 e3 ⟨rfl, hzs⟩ hzl h9 S9
      replace S9 : St C P3 ((D2, LO zs n2) :: (Lc + 1, o7) :: (L + 1 + 1, o3) :: (L + 1, o2) :: fr ++ G) Lc _ h9 := S9
      walk_at "w"
      walk_at "S"
      rw [List.take_of_length_le (by rw [List.length_map, List.length_map]; (first | lia | omega))] at hzs
      obtain ⟨P9, e9, S10, hT⟩ := S.freeze (own := [(_, TO [.str col.k atk, .ref D2, wv] 0), (D2, LO zs n2)])
      have eX := e3.trans e9
      exact ⟨P9, (Lc + 1, o7) :: (L + 1 + 1, o3) :: (L + 1, o2) :: fr, _, eX, ⟨o7, _, rfl, d7, by
        rw [e1]
        exact (hys.ext eX).snoc ⟨_, 0, atk, D2, zs, n2, wv, as, rfl, hT _ (.head _), hT (D2, _) (.tail _ (.head _)), hzs, by (first | lia | omega), PyProof.Rows.Reads.keeps (e.trans eX) hwr⟩⟩, S10⟩
  · rintro P' fr' ys D n' h' e ⟨oc, cv', rfl, hoc, hys⟩ hlen S
    rw [List.take_of_length_le (by (first | lia | omega))] at hys
    obtain ⟨PD, eD, S2, hD⟩ := S.freeze1
    replace S2 : St C PD ((Lc + 1, oc) :: (L + 1 + 1, o3) :: (L + 1, o2) :: fr) L _ h' := S2
    replace S2 := S2.drop
    obtain ⟨ml, mvs, mn, rfl, hml, hmvl, hmz⟩ := hmv
    have hmvl2 := hmvl.length
    have hp9 := (e2.trans (e.trans eD)) _ _ hp
    walk_at "w"
    refine w_comp0 L rm.deeper.handled (.name _ _) (by with_unfolding_all rfl) rfl (by decide) (fun _ => rfl) ?_
    walk_at "w"
    refine w_iter_list S2 (S2.ext _ _ hp9) (fun I2 oI2 h8 ok2 it2 S8 e8 => ?_)
    refine ⟨_, _, _, I2, oI2, _, _, _, _, rfl, it2, S8, ok2, by rw [sizeLine_eq]; (first | lia | omega), fun j Pj fj zs => fj = (L + 1 + 1, o3) :: (L + 1, o2) :: fr ∧ Lfs zs (((ps.map some).map (pickD f.labs)).take j), ⟨rfl, .nil⟩, ?_, ?_, ?_⟩
    · intro j P3 fr3 ys G Lc mc h' e3 he S
      exact isList_of (S.ext _ _ (e3 _ _ hp9))
    · rintro L2 j kv P3 fr3 zs G2 mc h9 hj hkv e3 ⟨rfl, hzs⟩ hzl S9
      have hj' : j < ps.length := by (first | lia | omega)
      obtain ⟨q, hq, lf⟩ := hl.get (i := j) (d := plD (some ps[j])) (by simp [hj'])
      rw [hkv] at hq
      cases hq
      have hpj := hps _ (List.getElem_mem hj')
      have e4 : ((ps.map some).map (pickD f.labs)).take (j + 1) = ((ps.map some).map (pickD f.labs)).take j ++ [pickD f.labs (some ps[j])] := by
        rw [List.take_add_one]
        simp [hj']
      generalize ps[j] = p at *
      cases lf with
      | int _ t9 =>
      have hpc : p < f.labs.length := by (first | lia | omega)
      obtain ⟨y, hy, ly⟩ := hmvl.get (i := p) (d := pickD f.labs (some p)) (by
        show _ = some ((f.labs[p]?).getD .none)
        rw [List.getElem?_eq_getElem hpc]; rfl)
      walk_at "w"
      refine w_item (St.ext (by assumption) _ _ (((e.trans eD).trans e3) _ _ hml)) (by (first | lia | omega)) (by (first | lia | omega)) (by simpa using hy) ?_
      (try refine Gu (by assumption) ?_)
      exact ⟨_, _, _, Ext.rfl, ⟨rfl, by rw [e4]; exact hzs.append (.cons ly .nil)⟩, by assumption⟩
    · rintro P3 fr3 zs D2 n2 e3 ⟨rfl, hzs⟩ hzl h9 S9
      replace S9 : St C P3 ((D2, LO zs n2) :: (L + 1 + 1, o3) :: (L + 1, o2) :: fr) L _ h9 := S9
      rw [List.take_of_length_le (by rw [List.length_map, List.length_map]; (first | lia | omega))] at hzs
      walk_at "w"
      walk_at "S"
      obtain ⟨P9, e9, S10, hT⟩ := S.freeze (own := [(_, TO [.ref D, .str f.lk lt, .ref D2, nv, cv] 0), (D2, LO zs n2)])
      have eX := e3.trans e9
      have eY := (e.trans eD).trans eX
      exact ⟨P9, e2.trans eY, S10.drop.drop.sep, _, 0, D, ys, n', lt, .ref D2, nv, cv, rfl, hT _ (.head _), eX _ _ hD, hys.ext (eD.trans eX), by (first | lia | omega), ⟨D2, zs, n2, rfl, hT (D2, _) (.tail _ (.head _)), hzs, by (first | lia | omega)⟩, hnv.ext eY, hcv.ext eY⟩

set_option maxHeartbeats 400000
theorem Lfs.depth {vs : List Value} {ds : List PyData} (x : Lfs vs ds) : PyData.depthAll ds = 0 := by
  induction x with
  | nil => rfl
  | cons a _ ih => cases a <;> simp [PyData.depthAll, PyData.depth, ih]
theorem ListAt.depth {P : Heap} {v : Value} {ds : List PyData} (x : ListAt P v ds) : PyData.depthAll ds = 0 := by
  obtain ⟨l, vs, n, rfl, h2, h3, _⟩ := x
  exact h3.depth
theorem RowAt.depth {C : Cx} {P : Heap} {v : Value} {c : Col} (x : RowAt C P v c) : (colD c).depth ≤ 4 := by
  obtain ⟨ta, n, tk, il, vs, vn, wv, as, rfl, h2, h3, h4, h5, h6⟩ := x
  have := h4.depth
  unfold colD wordsD wordsL
  cases c.fac <;> simp [PyData.depth, PyData.depthAll, this]
theorem RowsAt.depth {C : Cx} {P : Heap} {vs : List Value} {cs : List Col} (x : RowsAt C P vs cs) : PyData.depthAll (cs.map colD) ≤ 4 := by
  induction x with
  | nil => exact Nat.zero_le _
  | cons a _ ih =>
    have := a.depth
    simp only [List.map_cons, PyData.depthAll]
    (first | lia | omega)
theorem PlainAt.depth {C : Cx} {P : Heap} {v : Value} {f : Fm} (x : PlainAt C P v f) : (plainD f).depth ≤ 64 := by
  obtain ⟨t, n, sl, srows, sn, lt, mv, nv, cv, rfl, h2, h3, h4, h5, h6, h7, h8⟩ := x
  have := h4.depth
  have := h6.depth
  have := h7.depth
  have := h8.depth
  unfold plainD
  simp only [PyData.depth, PyData.depthAll] at *
  (first | lia | omega)
theorem PlainAt.shaped {C : Cx} {P : Heap} {v : Value} {f : Fm} (x : PlainAt C P v f) (l : (plainD f).canLay0 = true) : PySem.SeqAt.shaped (plainD f) = true := by
  unfold PySem.SeqAt.shaped
  rw [l, decide_eq_true x.depth]; rfl
theorem layAll {ds : List PyData} : PyData.canLayAll0 ds = true ↔ ∀ d ∈ ds, d.canLay0 = true := by
  induction ds with
  | nil => simp [PyData.canLayAll0]
  | cons a ds ih => simp [PyData.canLayAll0, ih]
structure LayF (f : Fm) : Prop where
  cols : ∀ c ∈ f.cols, (c.k = "integer" ∨ c.k = "character") ∧ PyData.canLayAll0 c.items = true
  lk : f.lk = "integer" ∨ f.lk = "character"
  labs : PyData.canLayAll0 f.labs = true
  names : PyData.canLayAll0 (f.names.map .str) = true
theorem lay_kind {k : Str} (h : k = "integer" ∨ k = "character") : (PyData.str k).canLay0 = true := by
  rcases h with rfl | rfl <;> decide +kernel
theorem LayF.plain {f : Fm} (x : LayF f) : (plainD f).canLay0 = true := by
  have h1 : PyData.canLayAll0 (f.cols.map colD) = true := layAll.mpr fun d hd => by
    obtain ⟨c, hc, rfl⟩ := List.mem_map.mp hd
    have h := x.cols c hc
    have hk := lay_kind h.1
    have hw : (wordsD c.fac).canLay0 = true := by cases c.fac <;> decide +kernel
    unfold colD
    simp only [PyData.canLay0, PyData.canLayAll0] at *
    simp [hk, h.2, hw]
  have h2 := lay_kind x.lk
  have h3 := x.labs
  have h4 := x.names
  have h5 : (PyData.list [.str "data.frame"]).canLay0 = true := by decide +kernel
  unfold plainD
  simp only [PyData.canLay0, PyData.canLayAll0] at *
  simp [h1, h2, h3, h4, h5]
section
variable {C : Cx} {A : Around} {P : Heap} {fr : Own} {L : Addr} {m : Str → Option Value} {h : Heap} {Q : Value → Heap → Prop} {n : Nat}
theorem Rm.eqs {A : Around} {n : Nat} (r : Rm A n) : A.units + 64 < cLine := by have := r.units; (first | lia | omega)
theorem w_eqP {v v' : Value} {f : Fm} (r : Rm A n) (e : Ext P h) (x : PlainAt C P v f) (y : PlainAt C P v' f) (l : LayF f) (q : Q (.bool true) h) : W C A (compareOp .Eq v v') Q h :=
  W.of fun _ _ g => by
    obtain ⟨as, rx⟩ := x.reads
    obtain ⟨bs, ry⟩ := y.reads
    refine PySem.SeqAt.compareEq_shaped (PyProof.Rows.Reads.keeps e rx) (PyProof.Rows.Reads.keeps e ry) (x.shaped l.plain) (y.shaped l.plain) r.eqs ?_
    rw [PySem.SeqAt.eqv_refl _ l.plain]
    exact g _ _ _ q
theorem w_neP {v v' : Value} {f : Fm} (r : Rm A n) (e : Ext P h) (x : PlainAt C P v f) (y : PlainAt C P v' f) (l : LayF f) (q : Q (.bool false) h) : W C A (compareOp .NotEq v v') Q h :=
  W.of fun _ _ g => by
    obtain ⟨as, rx⟩ := x.reads
    obtain ⟨bs, ry⟩ := y.reads
    refine PySem.SeqAt.compareNe_shaped (PyProof.Rows.Reads.keeps e rx) (PyProof.Rows.Reads.keeps e ry) (x.shaped l.plain) (y.shaped l.plain) r.eqs ?_
    rw [PySem.SeqAt.eqv_refl _ l.plain]
    exact g _ _ _ q
end

set_option maxHeartbeats 400000
def joinCol (a b : Col) : Col := ⟨a.k, a.items ++ b.items, a.fac⟩
theorem c_joined {C : Cx} {A : Around} {P : Heap} {fr : Own} {h : Heap} {x1 x2 x : Addr} {f1 f2 f : Fm} {n : Nat} (rm : Rm A (n + 3)) (S : Sep C P fr h) (hf1 : FrameAt C P x1 f1) (hf2 : FrameAt C P x2 f2) (hf : FrameAt C P x f)
    (hz1 : f1.cols.length ≤ 100) (hz2 : f2.cols.length ≤ 100) (hz : f.cols.length ≤ 100) (hlen : f1.cols.length = f2.cols.length) (hj : f = ⟨List.zipWith joinCol f1.cols f2.cols, f1.names, f1.lk, f1.labs ++ f2.labs⟩) (lay : LayF f)
    (hiz : ∀ c ∈ f.cols, c.items.length ≤ 100) (hlz : f.labs.length ≤ 100) :
    W C A (call (.ref 379) [.ref x1, .ref x2, .ref x]) (fun v h' => ∃ P', Ext P P' ∧ Sep C P' fr h' ∧ v = .bool true) h := by
  refine (WK.w ?_)
  refine' k_def (binds := [("first", .ref x1), ("second", .ref x2), ("whole_frame", .ref x)]) S rm ?ho ?hcd ?hb ?hl ?hc ?h6 ?h7 ?h8 ?_
  walk_at "sides"
  intro L h1 S1 _
  walk_at "w"
  refine S1.call (fun fr' S' => c_plain (n := n) rm.deeper.up S' hf1 hz1) fun v' P2 h2 e2 S2 hx9 => ?_
  obtain ⟨t1, tn1, sl1, rows1, sn1, lt1, mv1, nv1, cv1, ev, ht1, hsl1, hrows1, hrz1, hmv1, hnv1, hcv1⟩ := hx9
  subst ev
  walk_at "w"
  walk_at "S"
  refine S.call (fun fr' S' => c_plain (n := n) rm.deeper.up S' (hf2.ext e2) hz2) fun v' P3 h3 e3 S3 hx9 => ?_
  obtain ⟨t2, tn2, sl2, rows2, sn2, lt2, mv2, nv2, cv2, ev, ht2, hsl2, hrows2, hrz2, hmv2, hnv2, hcv2⟩ := hx9
  subst ev
  walk_at "w"
  walk_at "S"
  refine w_newList S (fun D h4 S4 => ?_)
  walk_at "w"
  refine w_for ?_
  walk_at "w"
  have ht1' := e3 _ _ ht1
  have hsl1' := e3 _ _ hsl1
  have hr1 := hrows1.length
  have hr2 := hrows2.length
  refine w_titem (j := 0) (St.ext (by assumption) _ _ ht1') (by decide) (by decide) rfl rfl ?_ (by with_unfolding_all rfl)
  walk_at "w"
  refine w_len (St.ext (by assumption) _ _ hsl1') (by (first | lia | omega)) (fun tq => ?_)
  walk_at "w"
  walk_at "S"
  refine w_range S (fun r t5 t6 t7 h4 S4 => ?_)
  walk_at "w"
  refine w_iter_range (k := rows1.length) S4 (S4.sep.own _ (.head _)) rfl (by (first | lia | omega)) (fun I oI h5 ok it S5 e5 => ?_)
  replace S5 := (S5.perm (List.Perm.swap ..)).drop
  refine WF.inv it S5 ok rm.deeper.handled (.name _ _) (fun i P' fr' m' => m' "whole_frame" = some (.ref x) ∧ m' "one" = some (.ref t1) ∧ m' "two" = some (.ref t2) ∧ m' "columns" = some (.ref D) ∧ ∃ ys nD, fr' = (D, LO ys nD) :: fr ∧ ys.length = i ∧ RowsAt C P' ys ((List.zipWith joinCol f1.cols f2.cols).take i))
      ⟨by with_unfolding_all rfl, by with_unfolding_all rfl, by with_unfolding_all rfl, by with_unfolding_all rfl, [], 0, rfl, rfl, .nil⟩ ?_ ?_ ?_
  · intro i P' fr' m' G h' e _ S'
    trivial
  · rintro i u P' fr' m' G h' hi ⟨tu, rfl⟩ e ⟨m0, m1, m2, m3, ys, nD, rfl, hyl, hys⟩ S'
    have hi1 : i < f1.cols.length := by (first | lia | omega)
    have hi2 : i < f2.cols.length := by (first | lia | omega)
    obtain ⟨u1, hu1, ta1, an1, atk1, il1, vs1, vn1, wv1, as1, eu1, hta1, hil1, hvl1, hvz1, hwr1⟩ := hrows1.get (List.getElem?_eq_getElem hi1)
    subst eu1
    obtain ⟨u2, hu2, ta2, an2, atk2, il2, vs2, vn2, wv2, as2, eu2, hta2, hil2, hvl2, hvz2, hwr2⟩ := hrows2.get (List.getElem?_eq_getElem hi2)
    subst eu2
    have e1 : (List.zipWith joinCol f1.cols f2.cols).take (i + 1) = (List.zipWith joinCol f1.cols f2.cols).take i ++ [joinCol f1.cols[i] f2.cols[i]] := by
      rw [List.take_add_one, List.getElem?_zipWith, List.getElem?_eq_getElem hi1, List.getElem?_eq_getElem hi2]; rfl
    have hii : (joinCol f1.cols[i] f2.cols[i]).items.length ≤ 100 := hiz _ (by rw [hj]; exact List.mem_of_getElem? (i := i) (by rw [List.getElem?_zipWith, List.getElem?_eq_getElem hi1, List.getElem?_eq_getElem hi2]))
    rw [e1]
    generalize f1.cols[i] = col1 at *
    generalize f2.cols[i] = col2 at *
    have hjl : col1.items.length + col2.items.length ≤ 100 := by simpa [joinCol] using hii
    have hl1 := hvl1.length
    have hl2 := hvl2.length
    have k1 := (e3.trans e)
    refine Gn.in fun _ _ => ?_
    refine w_asg ?_
    walk_at "w"
    walk_at "S"
    refine w_m_append (S.sep.own _ (.head _)) ?_
    walk_at "w"
    refine w_titem (j := 0) (S.ext _ _ (k1 _ _ ht1)) (by decide) (by decide) rfl rfl ?_ (by with_unfolding_all rfl)
    walk_at "w"
    refine w_item (S.ext _ _ (k1 _ _ hsl1)) (by (first | lia | omega)) (by (first | lia | omega)) (by simpa using hu1) ?_ (by with_unfolding_all rfl)
    walk_at "w"
    refine w_titem (j := 0) (S.ext _ _ (k1 _ _ hta1)) (by decide) (by decide) rfl rfl ?_ (by with_unfolding_all rfl)
    walk_at "w"
    refine w_titem (j := 0) (S.ext _ _ (k1 _ _ ht1)) (by decide) (by decide) rfl rfl ?_ (by with_unfolding_all rfl)
    walk_at "w"
    refine w_item (S.ext _ _ (k1 _ _ hsl1)) (by (first | lia | omega)) (by (first | lia | omega)) (by simpa using hu1) ?_ (by with_unfolding_all rfl)
    walk_at "w"
    refine w_titem (j := 1) (S.ext _ _ (k1 _ _ hta1)) (by decide) (by decide) rfl rfl ?_ (by with_unfolding_all rfl)
    walk_at "w"
    refine w_titem (j := 0) (S.ext _ _ (e _ _ ht2)) (by decide) (by decide) rfl rfl ?_ (by with_unfolding_all rfl)
    walk_at "w"
    refine w_item (S.ext _ _ (e _ _ hsl2)) (by (first | lia | omega)) (by (first | lia | omega)) (by simpa using hu2) ?_ (by with_unfolding_all rfl)
    walk_at "w"
    refine w_titem (j := 1) (S.ext _ _ (e _ _ hta2)) (by decide) (by decide) rfl rfl ?_ (by with_unfolding_all rfl)
    walk_at "w"
    refine w_listadd S (S.ext _ _ (k1 _ _ hil1)) (S.ext _ _ (e _ _ hil2)) (by rw [sizeLine_eq]; (first | lia | omega)) (fun J h6 S6 => ?_)
    walk_at "w"
    refine w_titem (j := 0) (S6.ext _ _ (k1 _ _ ht1)) (by decide) (by decide) rfl rfl ?_ (by with_unfolding_all rfl)
    walk_at "w"
    refine w_item (S6.ext _ _ (k1 _ _ hsl1)) (by (first | lia | omega)) (by (first | lia | omega)) (by simpa using hu1) ?_ (by with_unfolding_all rfl)
    walk_at "w"
    refine w_titem (j := 2) (S6.ext _ _ (k1 _ _ hta1)) (by decide) (by decide) rfl rfl ?_ (by with_unfolding_all rfl)
    walk_at "w"
    walk_at "S"
    refine w_append (i := 2) S rfl (by rw [sizeLine_eq]; (first | lia | omega)) (fun h7 n7 S7 => ?_)
    walk_at "w"
    refine ⟨rfl, ?_⟩
    walk_at "w"
    have S8 := (show St C P' ((_, TO [.str col1.k atk1, .ref J, wv1] 0) :: (J, LO (vs1 ++ vs2) 0) :: (D, LO (ys ++ [_]) n7) :: fr ++ G) L _ h7 from S7)
    obtain ⟨P9, e9, S9, hT⟩ := S8.freeze (own := [(_, TO [.str col1.k atk1, .ref J, wv1] 0), (J, LO (vs1 ++ vs2) 0)])
    refine ⟨.inl rfl, P9, (D, LO (ys ++ [_]) n7) :: fr, _, e9, ?_, S9⟩
    exact ⟨by with_unfolding_all exact m0, by with_unfolding_all exact m1, by with_unfolding_all exact m2, by with_unfolding_all exact m3, _, n7, rfl, by simp [hyl], (hys.ext e9).snoc ⟨_, 0, atk1, J, vs1 ++ vs2, 0, wv1, as1, rfl, hT _ (.head _), hT (J, _) (.tail _ (.head _)), hvl1.append hvl2, by simp; (first | lia | omega), PyProof.Rows.Reads.keeps (k1.trans e9) hwr1⟩⟩
  · rintro P' fr' m' h' e ⟨m0, m1, m2, m3, ys, nD, rfl, hyl, hys⟩ S'
    have hzl : (List.zipWith joinCol f1.cols f2.cols).length = f1.cols.length := by rw [List.length_zipWith]; (first | lia | omega)
    rw [List.take_of_length_le (by (first | lia | omega))] at hys
    have k1 := (e3.trans e)
    obtain ⟨ml1, mvs1, mn1, rfl, hml1, hmvl1, hmz1⟩ := hmv1
    obtain ⟨ml2, mvs2, mn2, rfl, hml2, hmvl2, hmz2⟩ := hmv2
    have hll : f1.labs.length + f2.labs.length ≤ 100 := by rw [hj] at hlz; simpa using hlz
    have hll1 := hmvl1.length
    have hll2 := hmvl2.length
    walk_at "w"
    refine w_titem (j := 1) (S'.ext _ _ (k1 _ _ ht1)) (by decide) (by decide) rfl rfl ?_ (by with_unfolding_all rfl)
    walk_at "w"
    refine w_titem (j := 2) (S'.ext _ _ (k1 _ _ ht1)) (by decide) (by decide) rfl rfl ?_ (by with_unfolding_all rfl)
    walk_at "w"
    refine w_titem (j := 2) (S'.ext _ _ (e _ _ ht2)) (by decide) (by decide) rfl rfl ?_ (by with_unfolding_all rfl)
    walk_at "w"
    refine w_listadd S' (S'.ext _ _ (k1 _ _ hml1)) (S'.ext _ _ (e _ _ hml2)) (by rw [sizeLine_eq]; (first | lia | omega)) (fun J h6 S6 => ?_)
    walk_at "w"
    refine w_titem (j := 3) (S6.ext _ _ (k1 _ _ ht1)) (by decide) (by decide) rfl rfl ?_ (by with_unfolding_all rfl)
    walk_at "w"
    refine w_titem (j := 4) (S6.ext _ _ (k1 _ _ ht1)) (by decide) (by decide) rfl rfl ?_ (by with_unfolding_all rfl)
    walk_at "w"
    walk_at "S"
    rename_i tp hq
    obtain ⟨P9, e9, S9, hT⟩ := S.freeze (own := [(tp, TO [.ref D, .str f1.lk lt1, .ref J, nv1, cv1] 0), (J, LO (mvs1 ++ mvs2) 0), (D, LO ys nD)])
    have eW := (e2.trans k1).trans e9
    have hpl : PlainAt C P9 (.ref tp) f := by
      rw [hj]
      exact ⟨_, 0, D, ys, nD, lt1, .ref J, nv1, cv1, rfl, hT _ (.head _), hT (D, _) (.tail _ (.tail _ (.head _))), hys.ext e9, by (first | lia | omega), ⟨J, _, 0, rfl, hT (J, _) (.tail _ (.head _)), hmvl1.append hmvl2, by simp; (first | lia | omega)⟩, hnv1.ext (k1.trans e9), hcv1.ext (k1.trans e9)⟩
    refine S9.call (fun fr' S' => c_plain (n := n) rm.deeper.up S' (hf.ext eW) hz) fun v' PA hA eA SA hpl2 => ?_
    refine w_eqP rm.deeper SA.ext (hpl.ext eA) hpl2 lay ?_
    walk_at "w"
    exact ⟨PA, eW.trans eA, SA.sep, rfl⟩

set_option maxHeartbeats 400000
theorem str_ext {a b : Str} (h : a.cps.toList = b.cps.toList) : a = b := by
  cases a; cases b
  congr
  exact Array.toList_inj.mp h
theorem cps_app (a y : Str) : (a ++ y).cps.toList = a.cps.toList ++ y.cps.toList := PySem.W.KT.app_list a y
theorem cps_len (a : Str) : a.cps.toList.length = a.length := Array.length_toList
theorem slice_app (n r : Str) : Txt.slice (n ++ r) (some (n.length : Int)) none = r := by
  rw [slice_from_eq (b := ((n ++ r).length : Int)) (by (first | lia | omega)) (by rw [PySem.Str.length_append]; (first | lia | omega)) rfl]
  apply str_ext
  show (((n ++ r).cps.toList.drop (n.length : Int).toNat).take _).toArray.toList = _
  rw [List.toList_toArray, cps_app, Int.toNat_natCast, ← cps_len n, List.drop_left]
  apply List.take_of_length_le
  rw [cps_len, cps_len, PySem.Str.length_append]
  (first | lia | omega)
theorem app_empty (n : Str) : n ++ (⟨#[]⟩ : Str) = n := str_ext (by rw [cps_app]; simp)
theorem dot_item (r : Str) : Txt.item ("." ++ r) 0 = "." := by
  have e : (("." ++ r : Str).cps)[0]? = some 46 := by
    have := cps_app "." r
    rw [← Array.getElem?_toList, this]
    rfl
  unfold Txt.item Txt.charAt
  have hl : 0 < ("." ++ r : Str).length := by
    rw [PySem.Str.length_append, show (Str.ofString ".").length = 1 by decide]; (first | lia | omega)
  have e' : seqIndex? 0 ("." ++ r : Str).length = some 0 := by
    unfold seqIndex?
    simp [hl]
  rw [e']
  show (⟨#[((("." ++ r : Str).cps)[0]?).getD 0]⟩ : Str) = _
  rw [e]; rfl
theorem num_digit (k : Nat) : Txt.isdigit (num k) = true := by
  unfold Txt.isdigit
  have e := PySem.W.KIN.signs_num k
  have hall : (num k).cps.all Unicode.isDigit = true := by
    rw [← Array.all_toList, List.all_eq_true]
    intro c hc
    unfold num at hc
    rw [e] at hc
    obtain ⟨d, hd, rfl⟩ := List.mem_map.mp hc
    have h1 := Nat.isDigit_of_mem_toDigits (by decide) (by decide) hd
    have h2 : 48 ≤ d.toNat ∧ d.toNat ≤ 57 := by
      simp [Char.isDigit, UInt32.le_iff_toNat_le] at h1
      exact h1
    obtain ⟨h3, h4⟩ := h2
    generalize d.toNat = c at *
    rcases (by (first | lia | omega) : c = 48 ∨ c = 49 ∨ c = 50 ∨ c = 51 ∨ c = 52 ∨ c = 53 ∨ c = 54 ∨ c = 55 ∨ c = 56 ∨ c = 57) with rfl | rfl | rfl | rfl | rfl | rfl | rfl | rfl | rfl | rfl <;> decide +kernel
  have hlen : 0 < (num k).length := by
    rw [← cps_len]
    unfold num
    rw [e, List.length_map]
    exact Nat.length_toDigits_pos
  rw [hall, decide_eq_true hlen]; rfl
section
variable {C : Cx} {A : Around} {P : Heap} {fr : Own} {L : Addr} {m : Str → Option Value} {h : Heap} {Q : Value → Heap → Prop} {x y : Str} {t u : Tok}
theorem w_slen (hz : x.length < 2 ^ 60) (q : ∀ t, Q (.int x.length t) h) : W C A (call (.builtin "len") [.str x t]) Q h := W.of fun _ _ g => PySem.P.len_str (by (first | lia | omega)) (g _ _ _ (q _))
theorem w_m_starts {pl : Sem Bool} {Q : Value × List Value → Heap → Prop} (q : Q (.builtin "str.startswith", [.str x t]) h) : W C A (getMethod (.str x t) "startswith" pl) Q h := W.of fun _ _ g => GM.startswith (g _ _ _ q)
theorem w_m_isdigit {pl : Sem Bool} {Q : Value × List Value → Heap → Prop} (q : Q (.builtin "str.isdigit", [.str x t]) h) : W C A (getMethod (.str x t) "isdigit" pl) Q h := W.of fun _ _ g => GM.isdigit (g _ _ _ q)
theorem w_starts (q : Q (.bool (Txt.startswith x y)) h) : W C A (call (.builtin "str.startswith") [.str x t, .str y u]) Q h := W.of fun _ _ g => SC.startswith (g _ _ _ q)
theorem w_isdigit (q : Q (.bool (Txt.isdigit x)) h) : W C A (call (.builtin "str.isdigit") [.str x t]) Q h := W.of fun _ _ g => SC.isdigit (g _ _ _ q)
theorem w_sslo {value slice : Expr} {sl : Addr} {i : Int} {ui : Tok} (e : h.get? sl = some (SlO (.int i ui) .none)) (hz : x.length ≤ 1000) (q : ∀ t, Q (.str (Txt.slice x (some i) none) t) h)
    (hs : subscripted slice false (.str x t) (.ref sl) = operate [.ref sl, .str x t] (getItem (.str x t) (.ref sl)) := by with_unfolding_all rfl) : W C A (subscriptTail value slice (.str x t) (.ref sl)) Q h :=
  W.of fun _ _ g => tail_any (typeIs_str _ _ _) PySem.F.slot_str_getitem.lookup (wpAny_getItem_str_slice (l := some (i, ui)) (u := none) (st := none) ⟨_, e, rfl, rfl⟩ rfl
    (post_val_or_str ⟨Nat.le_trans (Txt.slice_le x _ _) (by rw [sizeLine_eq]; (first | lia | omega)), fun t' k => g _ _ _ (q t')⟩)) hs
end

set_option maxHeartbeats 400000
theorem nodup_inj {α : Type} {l : List α} (h : l.Nodup) {i j : Nat} (hi : i < l.length) (hj : j < l.length) (e : l[i] = l[j]) : i = j := by
  have nd := List.pairwise_iff_getElem.mp h
  rcases Nat.lt_trichotomy i j with z | z | z
  · exact absurd e (nd i j hi hj z)
  · exact z
  · exact absurd e.symm (nd j i hj hi z)
theorem foundT_lt {T : List Str} {k : Nat} (h : k < T.length) : foundT T (some k) = T[k] := by
  show (T[k]?).getD "NA" = _
  rw [List.getElem?_eq_getElem h]; rfl
theorem pickD_lt {ds : List PyData} {k : Nat} (h : k < ds.length) : pickD ds (some k) = ds[k] := by
  show (ds[k]?).getD .none = _
  rw [List.getElem?_eq_getElem h]; rfl
theorem foundT_ge {T : List Str} {k : Nat} (h : T.length ≤ k) : foundT T (some k) = "NA" := by
  show (T[k]?).getD "NA" = _
  rw [List.getElem?_eq_none h]; rfl
theorem pickD_ge {ds : List PyData} {k : Nat} (h : ds.length ≤ k) : pickD ds (some k) = .none := by
  show (ds[k]?).getD .none = _
  rw [List.getElem?_eq_none h]; rfl
theorem pickD_lay {ds : List PyData} {p : Option Nat} (h : PyData.canLayAll0 ds = true) : (pickD ds p).canLay0 = true := by
  cases p with
  | none => rfl
  | some k =>
    by_cases hk : k < ds.length
    · rw [pickD_lt hk]; exact layAll.mp h _ (List.getElem_mem hk)
    · rw [pickD_ge (by (first | lia | omega))]; rfl
abbrev labsT (f : Fm) : List Str := f.labs.map (labT f.lk)
theorem FOk.map {f : Fm} (h : FOk f) : f.labs.map (labelOf f.lk) = (labsT f).map PyData.str := by
  rw [List.map_map]
  exact List.map_congr_left fun d hd => (h.labs d hd).txt
theorem PickL.labOk {f : Fm} {ps : List (Option Nat)} {k : Str} {labs : List PyData} (hok : FOk f) (h : PickL f ps k labs) : ∀ d ∈ labs, LabOk k d := by
  rcases h with ⟨g, rfl, rfl⟩ | ⟨g, rfl, us, rfl, hu⟩
  · intro d hd
    obtain ⟨p, hp, rfl⟩ := List.mem_map.mp hd
    obtain ⟨j, rfl, hj⟩ := g.1 p hp
    rw [pickD_lt hj]
    exact hok.labs _ (List.getElem_mem hj)
  · intro d hd
    obtain ⟨s, hs, rfl⟩ := List.mem_map.mp hd
    exact .inr ⟨rfl, s, rfl⟩
theorem PickL.told {f : Fm} {ps : List (Option Nat)} {k : Str} {labs : List PyData} (hok : FOk f) (nd : (labsT f).Nodup) (h : PickL f ps k labs) :
    ∃ told : List Str, labs.map (labelOf k) = told.map PyData.str ∧ UniqOf (ps.map (foundT (labsT f))) told := by
  rcases h with ⟨g, rfl, rfl⟩ | ⟨g, rfl, us, rfl, hu⟩
  · refine ⟨ps.map (foundT (labsT f)), ?_, rfl, ?_, fun j n u hn hu => .inl ?_⟩
    · rw [List.map_map, List.map_map]
      refine List.map_congr_left fun p hp => ?_
      obtain ⟨j, rfl, hj⟩ := g.1 p hp
      show labelOf f.lk (pickD f.labs (some j)) = PyData.str (foundT (labsT f) (some j))
      rw [pickD_lt hj, foundT_lt (by simpa using hj), (hok.labs _ (List.getElem_mem hj)).txt, List.getElem_map]
    · refine List.pairwise_map.mpr (g.2.imp_of_mem fun {a b} ha hb hab e => hab ?_)
      obtain ⟨i, rfl, hi⟩ := g.1 a ha
      obtain ⟨j, rfl, hj⟩ := g.1 b hb
      rw [foundT_lt (by simpa using hi), foundT_lt (by simpa using hj)] at e
      rw [nodup_inj nd (by simpa using hi) (by simpa using hj) e]
    · rw [hn] at hu
      exact (Option.some.inj hu).symm
  · refine ⟨us, ?_, hu⟩
    rw [List.map_map]
    exact List.map_congr_left fun s _ => rfl
theorem lfs_strs {vs : List Value} : ∀ {xs : List Str}, Lfs vs (xs.map .str) → Strs vs xs := by
  induction vs with
  | nil =>
    intro xs h
    cases xs with
    | nil => exact .nil
    | cons x xs => cases h
  | cons v vs ih =>
    intro xs h
    cases xs with
    | nil => cases h
    | cons x xs =>
      cases h with
      | cons a b =>
        cases a
        exact .cons _ _ (ih b)
/-- the tail behind a name -/
theorem uniq_tail {n u : Str} (h : u = n ∨ ∃ k : Nat, 1 ≤ k ∧ k < 10 ^ 9 ∧ u = n ++ "." ++ num k) : ∃ r : Str, u = n ++ r ∧ r.length ≤ 20 ∧ (r = Str.ofString "" ∨ ∃ k : Nat, r = "." ++ num k) := by
  rcases h with rfl | ⟨k, _, hk, rfl⟩
  · have e : u ++ Str.ofString "" = u := str_ext (by rw [cps_app, show (Str.ofString "").cps.toList = [] by decide +kernel, List.append_nil])
    exact ⟨Str.ofString "", e.symm, by decide, .inl rfl⟩
  · refine ⟨"." ++ num k, str_ext (by simp only [cps_app, List.append_assoc]), ?_, .inr ⟨k, rfl⟩⟩
    rw [PySem.Str.length_append]
    have := num_len hk
    have : (Str.ofString ".").length = 1 := by decide
    (first | lia | omega)
section
variable {C : Cx} {A : Around} {P : Heap} {fr : Own} {L : Addr} {m : Str → Option Value} {h : Heap} {Q : Value → Heap → Prop} {n : Nat}
theorem leaf_shaped {v : Value} {d : PyData} (x : Lf v d) (l : d.canLay0 = true) : PySem.SeqAt.shaped d = true := by
  unfold PySem.SeqAt.shaped
  rw [l]
  cases x <;> rfl
theorem w_neL {v v' : Value} {d : PyData} (r : Rm A n) (x : Lf v d) (y : Lf v' d) (l : d.canLay0 = true) (q : Q (.bool false) h) : W C A (compareOp .NotEq v v') Q h :=
  W.of fun _ _ g => by
    refine PySem.SeqAt.compareNe_shaped x.reads y.reads (leaf_shaped x l) (leaf_shaped y l) r.eqs ?_
    rw [PySem.SeqAt.eqv_refl _ l]
    exact g _ _ _ q
theorem w_neLs {a b : Addr} {vs vs' : List Value} {k k' : Nat} {ds : List PyData} (r : Rm A n) (ea : h.get? a = some (LO vs k)) (eb : h.get? b = some (LO vs' k')) (x : Lfs vs ds) (y : Lfs vs' ds) (l : PyData.canLayAll0 ds = true) (q : Q (.bool false) h) : W C A (compareOp .NotEq (.ref a) (.ref b)) Q h :=
  W.of fun _ _ g => by
    have hs : PySem.SeqAt.shaped (.list ds) = true := by
      have := x.depth
      unfold PySem.SeqAt.shaped
      simp [PyData.canLay0, PyData.depth, l, this]
    refine PySem.SeqAt.compareNe_shaped (lfs_list ea x) (lfs_list eb y) hs hs r.eqs ?_
    rw [PySem.SeqAt.eqv_refl (.list ds) l]
    exact g _ _ _ q
end

set_option maxHeartbeats 1000000
def lackB (high : Nat) : Option Nat → Bool
  | none => true
  | some k => decide (high ≤ k)
theorem c_again {C : Cx} {A : Around} {P : Heap} {fr : Own} {h : Heap} {ci x : Addr} {o : Obj} {f : Fm} {N high : Nat} {t : Tok} {n : Nat} (rm : Rm A (n + 8)) (S : Sep C P ((ci, o) :: fr) h) (hc : Cis C P N o) (hN : N ≤ 900) (hf : FrameAt C P x f) (hF : FrOk f high) :
    W C A (call (.ref 386) [.ref ci, .ref x, .int high t]) (fun v h' => ∃ P' o' own, Ext P P' ∧ Sep C P' ((ci, o') :: (own ++ fr)) h' ∧ (own = [] ∧ v = .bool true)) h := by
  have hi6 := hF.hi6
  refine (WK.w ?_)
  refine' k_def (binds := [("cistern", .ref ci), ("frame_now", .ref x), ("high", .int high t)]) S rm ?ho ?hcd ?hb ?hl ?hc ?h6 ?h7 ?h8 ?_
  walk_at "sides"
  intro L h1 S1 _
  walk_at "w"
  refine w_newList S1 (fun D h2 S2 => ?_)
  walk_at "w"
  refine w_for ?_
  walk_at "w"
  walk_at "S"
  rename_i t7
  refine S.callM (i := 1) rfl (fun fr' S' => c_ladle (n := n) (k := 7) (t := t7) rm.deeper.up S' hc (by (first | lia | omega)) (by decide) (by decide)) fun v P1 o1 h3 e1 S3 hx9 => ?_
  obtain ⟨hc1, r7, hr7, t8, ev⟩ := hx9
  subst ev
  walk_at "w"
  refine w_range S3 (fun r t5 t6 t7 h4 S4 => ?_)
  walk_at "w"
  refine w_iter_range (k := r7) S4 (S4.sep.own _ (.head _)) rfl (by (first | lia | omega)) (fun I oI h5 ok it S5 e5 => ?_)
  replace S5 := (S5.perm (List.Perm.swap ..)).drop
  refine WF.inv it S5 ok rm.deeper.handled (.name _ _) (fun i P' fr' m' => m' "cistern" = some (.ref ci) ∧ m' "frame_now" = some (.ref x) ∧ m' "high" = some (.int high t) ∧ m' "places" = some (.ref D) ∧ ∃ o' ys nD ps, fr' = (D, LO ys nD) :: (ci, o') :: fr ∧ Cis C P' (N + 1 + i) o' ∧ Lfs ys (ps.map plD) ∧ ps.length = i)
      ⟨by with_unfolding_all rfl, by with_unfolding_all rfl, by with_unfolding_all rfl, by with_unfolding_all rfl, o1, [], 0, [], rfl, hc1, .nil, rfl⟩ ?_ ?_ ?_
  · intro i P' fr' m' G h' e _ S'
    trivial
  · rintro i u P' fr' m' G h' hi ⟨tu, rfl⟩ e ⟨m0, m1, m2, m3, o', ys, nD, ps, rfl, hci, hys, hpl⟩ S'
    have hyl := hys.length
    simp only [List.length_map] at hyl
    refine Gn.in fun _ _ => ?_
    refine w_asg ?_
    walk_at "w"
    rename_i t9
    rw [show ((high : Int) + 3) = ((high + 3 : Nat) : Int) by (first | lia | omega)]
    walk_at "S"
    refine S.callM (i := 1) rfl (fun fr' S' => c_ladle (n := n) (k := high + 3) rm.deeper.up S' hci (by (first | lia | omega)) (by (first | lia | omega)) (by (first | lia | omega))) fun v P2 o2 h2 e2 S2 hx9 => ?_
    obtain ⟨hc2, he, hhe, t6, ev⟩ := hx9
    subst ev
    walk_at "w"
    walk_at "S"
    refine w_m_append (S.sep.own _ (.head _)) ?_
    walk_at "w"
    refine ⟨fun c => ?_, fun c => ?_⟩
    · walk_at "w"
      refine w_append (i := 0) S rfl (by rw [sizeLine_eq]; (first | lia | omega)) (fun h6 n6 S6 => ?_)
      walk_at "w"
      refine ⟨rfl, ?_⟩
      walk_at "w"
      refine ⟨.inl rfl, _, (D, LO (ys ++ [_]) n6) :: (ci, o2) :: fr, _, e2, ?_, S6⟩
      exact ⟨by with_unfolding_all exact m0, by with_unfolding_all exact m1, by with_unfolding_all exact m2, by with_unfolding_all exact m3, o2, _, n6, ps ++ [none], rfl, hc2, by rw [List.map_append]; exact hys.append (.cons .none .nil), by simp [hpl]⟩
    · walk_at "w"
      refine w_append (i := 0) S rfl (by rw [sizeLine_eq]; (first | lia | omega)) (fun h6 n6 S6 => ?_)
      walk_at "w"
      refine ⟨rfl, ?_⟩
      walk_at "w"
      refine ⟨.inl rfl, _, (D, LO (ys ++ [_]) n6) :: (ci, o2) :: fr, _, e2, ?_, S6⟩
      exact ⟨by with_unfolding_all exact m0, by with_unfolding_all exact m1, by with_unfolding_all exact m2, by with_unfolding_all exact m3, o2, _, n6, ps ++ [some he], rfl, hc2, by rw [List.map_append]; exact hys.append (.cons (.int _ _) .nil), by simp [hpl]⟩
  rintro P3 fr3 m3 h6 e3 ⟨m0, m1, m2, m3', o', ys, nD, ps, rfl, hci, hys, hpl⟩ S6
  have hyl := hys.length
  simp only [List.length_map] at hyl
  obtain ⟨P4, e4, S7, hD⟩ := S6.freeze1
  have hf4 := (hf.ext e1).ext (e3.trans e4)
  walk_at "w"
  refine S7.call (fun fr' S' => c_order_frame (n := n) rm.deeper.up S' hf4 hF.ok (by have := hF.ncols; (first | lia | omega)) hD hys (by (first | lia | omega))) fun v P5 h7 e5 S8 hx9 => ?_
  obtain ⟨y, k, labs, ev, hy, hpk⟩ := hx9
  subst ev
  walk_at "w"
  walk_at "S"
  refine S.call (fun fr' S' => c_row_names (n := n) rm.deeper.up S' (hf4.ext e5) hF.ok.labs) fun v P6 h8 e6 S9 hx9 => ?_
  obtain ⟨ln, nvs, nn, ev, hnv, hnl, hnz⟩ := hx9
  subst ev
  walk_at "w"
  walk_at "S"
  refine S.call (fun fr' S' => c_row_names (n := n) rm.deeper.up S' (hy.ext e6) (hpk.labOk hF.ok)) fun v P7 h9 e7 S10 hx9 => ?_
  obtain ⟨lt, tvs, tn, ev, htv, htl, htz⟩ := hx9
  subst ev
  walk_at "w"
  obtain ⟨told, htold, hu⟩ := hpk.told hF.ok hF.nd
  dsimp only at htl
  rw [htold] at htl
  rw [hF.ok.map] at hnl
  have htl2 := htl.length
  have hu1 := hu.1
  simp only [List.length_map] at htl2 hu1
  walk_at "S"
  have eD := (e5.trans e6).trans e7
  refine w_len (S.ext _ _ htv) (by (first | lia | omega)) (fun tq => ?_)
  walk_at "w"
  refine w_len (S.ext _ _ (eD _ _ hD)) (by (first | lia | omega)) (fun tq => ?_)
  walk_at "w"
  refine ⟨fun c => ?_, fun c => ?_⟩
  · exfalso
    have : tvs.length = ys.length := by (first | lia | omega)
    rw [this] at c
    simp at c
  walk_at "w"
  refine w_for ?_
  walk_at "w"
  have hD7 := eD _ _ hD
  have SX := S
  have hnv7 := e7 _ _ hnv
  have hy7 := hy.ext (e6.trans e7)
  have hf7 := hf4.ext eD
  obtain ⟨vy, evy, hyx, hyd, ⟨yxs, yn, hyxs, hycols, hyz⟩, -⟩ := hy7
  obtain ⟨vx, evx, hxx, hxd, ⟨xxs, xn, hxxs, hxcols, hxz⟩, -⟩ := hf7
  subst evy
  subst evx
  have hycl := hycols.length
  have hxcl := hxcols.length
  simp only [List.length_map] at hycl
  have hnc := hF.ncols
  have hnl2 := hnl.length
  have hlabs := hF.labs
  simp only [List.length_map] at hnl2
  refine w_len (SX.ext _ _ hD7) (by (first | lia | omega)) (fun tq => ?_)
  walk_at "w"
  refine w_range SX (fun r t5 t6 t7 h4 S4 => ?_)
  walk_at "w"
  refine w_iter_range (k := ys.length) S4 (S4.sep.own _ (.head _)) rfl (by (first | lia | omega)) (fun I oI h5 ok it S5 e5' => ?_)
  replace S5 := (S5.perm (List.Perm.swap ..)).drop
  refine WF.inv it S5 ok rm.deeper.handled (.name _ _) (fun i P' fr' m' => m' "frame_now" = some (.ref vx.x) ∧ m' "places" = some (.ref D) ∧ m' "found" = some (.ref vy.x) ∧ m' "names" = some (.ref ln) ∧ m' "told" = some (.ref lt) ∧ m' "high" = some (.int high t) ∧ fr' = (ci, o') :: fr)
      ⟨by with_unfolding_all exact m1, by with_unfolding_all exact m3', by with_unfolding_all rfl, by with_unfolding_all rfl, by with_unfolding_all rfl, by with_unfolding_all exact m2, rfl⟩ ?_ ?_ ?_
  · intro i P' fr' m' G h' e _ S'
    trivial
  · rintro i u P' fr' m' G h' hi ⟨tu, rfl⟩ e ⟨n0, n1, n2, n3, n4, n5, rfl⟩ S'
    rw [Int.zero_add]
    have hi' : i < ps.length := by (first | lia | omega)
    obtain ⟨pv, hpv, lf⟩ := hys.get (i := i) (d := plD ps[i]) (by simp [hi'])
    have hti : i < told.length := by (first | lia | omega)
    obtain ⟨uv, huv, luv⟩ := htl.get (i := i) (d := .str told[i]) (by simp [hti])
    have hpi : (ps.map (foundT (labsT f)))[i]? = some (foundT (labsT f) ps[i]) := by simp [hi']
    obtain ⟨rr, hrr, hrl, hrs⟩ := uniq_tail (hu.2.2 i _ _ hpi (List.getElem?_eq_getElem hti))
    have hnd : told[i] ∉ told.take i := fun hm => by
      obtain ⟨j, hj, e⟩ := List.mem_iff_getElem.mp hm
      rw [List.length_take] at hj
      rw [List.getElem_take] at e
      have := nodup_inj hu.2.1 (by (first | lia | omega)) hti e
      (first | lia | omega)
    have hfl : (foundT (labsT f) ps[i]).length ≤ 100 := by
      cases ps[i] with
      | none => exact (by decide : (Str.ofString "NA").length ≤ 100)
      | some k =>
        by_cases hk : k < f.labs.length
        · rw [foundT_lt (by simpa using hk), List.getElem_map]
          exact hF.ok.short _ (List.getElem_mem hk)
        · rw [foundT_ge (by simp; (first | lia | omega))]
          exact (by decide : (Str.ofString "NA").length ≤ 100)
    have hx9 := e _ _ hxx
    have hxd9 := e _ _ hxd
    have hy9 := e _ _ hyx
    have hyd9 := e _ _ hyd
    have hps : ∀ {c : Col} {d : PyData}, d = pickD c.items ps[i] → (c.items.length = high) → (ps.map (pickD c.items))[i]? = some d := fun hd _ => by rw [hd]; simp [hi']
    generalize ps[i] = p at *
    refine Gn.in fun _ _ => ?_
    refine w_asg ?_
    walk_at "n"
    walk_at "S"
    obtain ⟨mm, hmm⟩ : ∃ mm : Str → Option Value, (fun y => if y = (Str.ofString "at") then some (Value.int i tu) else m' y) = mm := ⟨_, rfl⟩
    rw [hmm] at S
    have f0 : mm "frame_now" = some (.ref vx.x) := by rw [← hmm]; with_unfolding_all exact n0
    have f1 : mm "places" = some (.ref D) := by rw [← hmm]; with_unfolding_all exact n1
    have f2 : mm "found" = some (.ref vy.x) := by rw [← hmm]; with_unfolding_all exact n2
    have f3 : mm "names" = some (.ref ln) := by rw [← hmm]; with_unfolding_all exact n3
    have f4 : mm "told" = some (.ref lt) := by rw [← hmm]; with_unfolding_all exact n4
    have f5 : mm "at" = some (.int i tu) := by rw [← hmm]; with_unfolding_all rfl
    have f6 : mm "high" = some (.int high t) := by rw [← hmm]; with_unfolding_all exact n5
    walk_at "s"
    refine W.mono (Q := fun fl h' => fl = .next ∧ St C P' ((ci, o') :: fr ++ G) L (fun y => if y = (Str.ofString "lacks") then some (.bool (lackB high p)) else mm y) h') ?_ ?_
    · walk_at "w"
      refine w_item (S.ext _ _ (e _ _ hD7)) (by (first | lia | omega)) (by (first | lia | omega)) (by simpa using hpv) ?_
      walk_at "w"
      cases p with
      | none =>
        cases lf
        walk_at "wd"
        exact ⟨rfl, by assumption⟩
      | some k =>
        cases lf with
        | int _ t9 =>
        walk_at "wd"
        refine w_item (S.ext _ _ (e _ _ hD7)) (by (first | lia | omega)) (by (first | lia | omega)) (by simpa using hpv) ?_
        walk_at "w"
        refine ⟨rfl, ?_⟩
        have eb : decide ((high : Int) ≤ (k : Int)) = lackB high (some k) := by
          show _ = decide (high ≤ k)
          simp
        rw [← eb]
        assumption
    · rintro fl h7 ⟨rfl, S7⟩
      obtain ⟨ma, hma⟩ : ∃ mm' : Str → Option Value, (fun y => if y = (Str.ofString "lacks") then some (.bool (lackB high p)) else mm y) = mm' := ⟨_, rfl⟩
      rw [hma] at S7
      have g0 : ma "frame_now" = some (.ref vx.x) := by rw [← hma]; with_unfolding_all exact f0
      have g1 : ma "places" = some (.ref D) := by rw [← hma]; with_unfolding_all exact f1
      have g2 : ma "found" = some (.ref vy.x) := by rw [← hma]; with_unfolding_all exact f2
      have g3 : ma "names" = some (.ref ln) := by rw [← hma]; with_unfolding_all exact f3
      have g4 : ma "told" = some (.ref lt) := by rw [← hma]; with_unfolding_all exact f4
      have g5 : ma "at" = some (.int i tu) := by rw [← hma]; with_unfolding_all exact f5
      have g6 : ma "lacks" = some (.bool (lackB high p)) := by rw [← hma]; with_unfolding_all rfl
      walk_at "s"
      walk_at "s"
      refine W.mono (Q := fun fl h' => fl = .next ∧ ∃ ts, St C P' ((ci, o') :: fr ++ G) L (fun y => if y = (Str.ofString "start") then some (.str (foundT (labsT f) p) ts) else ma y) h') ?_ ?_
      · walk_at "w"
        cases p with
        | none =>
          walk_at "wd"
          exact ⟨rfl, _, by assumption⟩
        | some k =>
          cases lf with
          | int _ t9 =>
          refine ⟨fun c => ?_, fun c => ?_⟩
          · have c' : high ≤ k := of_decide_eq_true c
            walk_at "w"
            exact ⟨rfl, _, by rw [foundT_ge (by simp; (first | lia | omega))]; assumption⟩
          · have c' : ¬ high ≤ k := of_decide_eq_false c
            walk_at "w"
            refine w_item (S7.ext _ _ (e _ _ hD7)) (by (first | lia | omega)) (by (first | lia | omega)) (by simpa using hpv) ?_
            have hkT : k < (labsT f).length := by simp; (first | lia | omega)
            obtain ⟨nvv, hnvv, lnv⟩ := hnl.get (i := k) (d := .str (labsT f)[k]) (by simp [show k < f.labs.length by (first | lia | omega)])
            cases lnv with
            | str _ t10 =>
            walk_at "w"
            refine w_item (S7.ext _ _ (e _ _ hnv7)) (by (first | lia | omega)) (by (first | lia | omega)) (by simpa using hnvv) ?_
            walk_at "w"
            exact ⟨rfl, _, by rw [foundT_lt hkT, List.getElem_map]; assumption⟩
      · rintro fl h8 ⟨rfl, ts, S8⟩
        obtain ⟨mb, hmb⟩ : ∃ mm' : Str → Option Value, (fun y => if y = (Str.ofString "start") then some (.str (foundT (labsT f) p) ts) else ma y) = mm' := ⟨_, rfl⟩
        rw [hmb] at S8
        have b0 : mb "frame_now" = some (.ref vx.x) := by rw [← hmb]; with_unfolding_all exact g0
        have b1 : mb "places" = some (.ref D) := by rw [← hmb]; with_unfolding_all exact g1
        have b2 : mb "found" = some (.ref vy.x) := by rw [← hmb]; with_unfolding_all exact g2
        have b3 : mb "names" = some (.ref ln) := by rw [← hmb]; with_unfolding_all exact g3
        have b4 : mb "told" = some (.ref lt) := by rw [← hmb]; with_unfolding_all exact g4
        have b5 : mb "at" = some (.int i tu) := by rw [← hmb]; with_unfolding_all exact g5
        have b6 : mb "lacks" = some (.bool (lackB high p)) := by rw [← hmb]; with_unfolding_all exact g6
        have b7 : mb "start" = some (.str (foundT (labsT f) p) ts) := by rw [← hmb]; with_unfolding_all rfl
        have b8 : mb "high" = some (.int high t) := by rw [← hmb, ← hma]; with_unfolding_all exact f6
        clear hmb hma hmm g0 g1 g2 g3 g4 g5 g6 f0 f1 f2 f3 f4 f5 f6
        have hsub : (told.take i).any (· == told[i]) = false := by
          rw [List.any_eq_false]
          intro s hs c
          exact hnd (by rw [← beq_iff_eq.mp c]; exact hs)
        generalize told[i] = us at *
        cases luv with
        | str _ tu2 =>
        have htv9 := S8.ext _ _ (e _ _ htv)
        walk_at "s"
        walk_at "s"
        refine W.mono (Q := fun fl h' => fl = .next ∧ St C P' ((ci, o') :: fr ++ G) L mb h') ?_ ?_
        · walk_at "w"
          refine w_item htv9 (by (first | lia | omega)) (by (first | lia | omega)) (by simpa using huv) ?_
          walk_at "w"
          refine ⟨_, _, _, _, S8, fun sl h9 S9 => ?_⟩
          refine w_lslice S9 (S9.ext _ _ (e _ _ htv)) (S9.sep.own _ (.head _)) htz (fun W h10 S10 => ?_)
          have hst : Strs (tvs.take i) (told.take i) := lfs_strs (by rw [List.map_take]; exact htl.take i)
          refine w_lin (S10.sep.own _ (.head _)) hst ?_
          rw [hsub]
          walk_at "wd"
          refine w_item (S10.ext _ _ (e _ _ htv)) (by (first | lia | omega)) (by (first | lia | omega)) (by simpa using huv) ?_
          refine w_m_starts ?_
          walk_at "w"
          refine w_starts ?_
          rw [hrr, PySem.W.KT.starts_app]
          walk_at "wd"
          exact ⟨rfl, S10.drop.drop⟩
        · rintro fl h9 ⟨rfl, S9⟩
          have htv9 := S9.ext _ _ (e _ _ htv)
          have husl : us.length ≤ 200 := by rw [hrr, PySem.Str.length_append]; (first | lia | omega)
          walk_at "s"
          walk_at "s"
          refine W.mono (Q := fun fl h' => fl = .next ∧ ∃ tr, St C P' ((ci, o') :: fr ++ G) L (fun y => if y = (Str.ofString "tail") then some (.str rr tr) else mb y) h') ?_ ?_
          · walk_at "w"
            refine w_item htv9 (by (first | lia | omega)) (by (first | lia | omega)) (by simpa using huv) ?_
            walk_at "w"
            refine w_slen (by (first | lia | omega)) (fun tl => ?_)
            refine ⟨_, _, _, _, S9, fun sl h10 S10 => ?_⟩
            refine w_sslo (S10.sep.own _ (.head _)) (by (first | lia | omega)) (fun tr => ?_)
            rw [hrr, slice_app]
            walk_at "w"
            walk_at "S"
            exact ⟨rfl, _, S.drop⟩
          · rintro fl h10 ⟨rfl, tr, S10⟩
            obtain ⟨mc, hmc⟩ : ∃ mm' : Str → Option Value, (fun y => if y = (Str.ofString "tail") then some (.str rr tr) else mb y) = mm' := ⟨_, rfl⟩
            rw [hmc] at S10
            have c0 : mc "frame_now" = some (.ref vx.x) := by rw [← hmc]; with_unfolding_all exact b0
            have c1 : mc "places" = some (.ref D) := by rw [← hmc]; with_unfolding_all exact b1
            have c2 : mc "found" = some (.ref vy.x) := by rw [← hmc]; with_unfolding_all exact b2
            have c3 : mc "names" = some (.ref ln) := by rw [← hmc]; with_unfolding_all exact b3
            have c4 : mc "told" = some (.ref lt) := by rw [← hmc]; with_unfolding_all exact b4
            have c5 : mc "at" = some (.int i tu) := by rw [← hmc]; with_unfolding_all exact b5
            have c6 : mc "lacks" = some (.bool (lackB high p)) := by rw [← hmc]; with_unfolding_all exact b6
            have c8 : mc "high" = some (.int high t) := by rw [← hmc]; with_unfolding_all exact b8
            have c9 : mc "tail" = some (.str rr tr) := by rw [← hmc]; with_unfolding_all rfl
            clear hmc b0 b1 b2 b3 b4 b5 b6 b7 b8
            walk_at "s"
            walk_at "s"
            refine W.mono (Q := fun fl h' => fl = .next ∧ St C P' ((ci, o') :: fr ++ G) L mc h') ?_ ?_
            · rcases hrs with rfl | ⟨kk, rfl⟩
              · walk_at "wd"
                exact ⟨rfl, S10⟩
              · walk_at "w"
                have hne : (("." ++ num kk : Str) != Str.ofString "") = true := by
                  rw [bne_iff_ne]
                  intro e
                  have e' := congrArg Str.length e
                  rw [PySem.Str.length_append, show (Str.ofString ".").length = 1 by decide, show (Str.ofString "").length = 0 by decide] at e'
                  (first | lia | omega)
                rw [hne]
                walk_at "wd"
                have hl1 : (0 : Int) < ("." ++ num kk : Str).length := by
                  rw [PySem.Str.length_append, show (Str.ofString ".").length = 1 by decide]; (first | lia | omega)
                refine w_sitem (by decide) hl1 (by (first | lia | omega)) (fun t11 => ?_)
                rw [dot_item]
                walk_at "wd"
                refine ⟨_, _, _, _, S10, fun sl h11 S11 => ?_⟩
                refine w_sslo (S11.sep.own _ (.head _)) (by (first | lia | omega)) (fun t12 => ?_)
                have hsl : Txt.slice ("." ++ num kk : Str) (some 1) none = num kk := slice_app "." (num kk)
                rw [hsl]
                refine w_m_isdigit ?_
                walk_at "w"
                refine w_isdigit ?_
                rw [num_digit]
                walk_at "wd"
                exact ⟨rfl, S11.drop⟩
            · rintro fl h11 ⟨rfl, S11⟩
              walk_at "w"
              refine w_for ?_
              walk_at "w"
              walk_at "g"
              walk_at "w"
              refine w_len (S11.ext _ _ (e _ _ hyxs)) (by rw [List.length_map]; (first | lia | omega)) (fun tq => ?_)
              walk_at "w"
              refine w_range S11 (fun r t5 t6 t7 h12 S12 => ?_)
              walk_at "w"
              refine w_iter_range (k := yxs.length) S12 (S12.sep.own _ (.head _)) (by rw [List.length_map]) (by (first | lia | omega)) (fun I oI h5 ok it S13 e5' => ?_)
              replace S13 := (S13.perm (List.Perm.swap ..)).drop
              refine WF.inv it S13 ok rm.deeper.handled (.name _ _) (fun j P2 fr2 m2 => m2 "frame_now" = some (.ref vx.x) ∧ m2 "places" = some (.ref D) ∧ m2 "found" = some (.ref vy.x) ∧ m2 "names" = some (.ref ln) ∧ m2 "told" = some (.ref lt) ∧ m2 "at" = some (.int i tu) ∧ m2 "lacks" = some (.bool (lackB high p)) ∧ m2 "high" = some (.int high t) ∧ fr2 = (ci, o') :: fr ++ G)
                ⟨c0, c1, c2, c3, c4, c5, c6, c8, rfl⟩ ?_ ?_ ?_
              · intro i P' fr' m' G h' e _ S'
                trivial
              · rintro j uc P2 fr2 m2 G2 h14 hj ⟨tc, rfl⟩ e2 ⟨d0, d1, d2, d3, d4, d5, d6, d8, rfl⟩ S14
                rw [Int.zero_add]
                have eX := e.trans e2
                have hjf : j < f.cols.length := by (first | lia | omega)
                obtain ⟨coly, hcoly, cy, ecy, hcyd, eky, hcyx, ⟨yvs, yvn, hyv, hyl, hyvz⟩, -⟩ := hycols.get (List.getElem?_eq_getElem (show j < yxs.length by (first | lia | omega)))
                obtain ⟨col, hcol, cx, ecx, hcxd, ekx, hcxx, ⟨xvs, xvn, hxv, hxl, hxvz⟩, -⟩ := hxcols.get (List.getElem?_eq_getElem (show j < xxs.length by (first | lia | omega)))
                have hcm := List.mem_of_getElem? hcol
                have hci9 := hF.items _ hcm
                have hlay := hF.lay _ hcm
                have hcy2 : coly = pickCol ps col := by
                  dsimp only at hcoly
                  rw [List.getElem?_map, hcol] at hcoly
                  exact (Option.some.inj hcoly).symm
                subst hcy2
                have hyj : (yxs.map Value.ref)[j]? = some (.ref cy.x) := by
                  rw [List.getElem?_map, List.getElem?_eq_getElem (show j < yxs.length by (first | lia | omega)), ecy]; rfl
                have hxj : (xxs.map Value.ref)[j]? = some (.ref cx.x) := by
                  rw [List.getElem?_map, List.getElem?_eq_getElem (show j < xxs.length by (first | lia | omega)), ecx]; rfl
                obtain ⟨yv, hyv2, lyv⟩ := hyl.get (i := i) (hps (c := col) rfl hci9)
                have hx10 := e2 _ _ hx9
                have hxd10 := e2 _ _ hxd9
                have hy10 := e2 _ _ hy9
                have hyd10 := e2 _ _ hyd9
                have hcyd' := eX _ _ hcyd
                have hcyx' := eX _ _ hcyx
                have hcxd' := eX _ _ hcxd
                have hcxx' := eX _ _ hcxx
                have hxl2 := hxl.length
                refine Gn.in fun _ _ => ?_
                refine w_asg ?_
                walk_at "n"
                walk_at "S"
                obtain ⟨md, hmd⟩ : ∃ mm' : Str → Option Value, (fun y => if y = (Str.ofString "column") then some (Value.int j tc) else m2 y) = mm' := ⟨_, rfl⟩
                rw [hmd] at S
                have k0 : md "frame_now" = some (.ref vx.x) := by rw [← hmd]; with_unfolding_all exact d0
                have k1 : md "places" = some (.ref D) := by rw [← hmd]; with_unfolding_all exact d1
                have k2 : md "found" = some (.ref vy.x) := by rw [← hmd]; with_unfolding_all exact d2
                have k3 : md "names" = some (.ref ln) := by rw [← hmd]; with_unfolding_all exact d3
                have k4 : md "told" = some (.ref lt) := by rw [← hmd]; with_unfolding_all exact d4
                have k5 : md "at" = some (.int i tu) := by rw [← hmd]; with_unfolding_all exact d5
                have k6 : md "lacks" = some (.bool (lackB high p)) := by rw [← hmd]; with_unfolding_all exact d6
                have k8 : md "high" = some (.int high t) := by rw [← hmd]; with_unfolding_all exact d8
                have k9 : md "column" = some (.int j tc) := by rw [← hmd]; with_unfolding_all rfl
                clear hmd d0 d1 d2 d3 d4 d5 d6 d8 c0 c1 c2 c3 c4 c5 c6 c8 c9
                walk_at "s"
                refine W.mono (Q := fun fl h' => fl = .next ∧ ∃ dv, Lf dv (pickD col.items p) ∧ St C P2 ((ci, o') :: fr ++ G ++ G2) L (fun y => if y = (Str.ofString "due") then some dv else md y) h') ?_ ?_
                · walk_at "w"
                  cases p with
                  | none =>
                    walk_at "wd"
                    exact ⟨rfl, _, .none, by assumption⟩
                  | some k =>
                    cases lf with
                    | int _ t9 =>
                    refine ⟨fun c => ?_, fun c => ?_⟩
                    · have c' : high ≤ k := of_decide_eq_true c
                      walk_at "w"
                      exact ⟨rfl, _, by rw [pickD_ge (by (first | lia | omega))]; exact .none, by assumption⟩
                    · have c' : ¬ high ≤ k := of_decide_eq_false c
                      walk_at "w"
                      walk_at "g"
                      walk_at "w"
                      refine w_item (S.ext _ _ (eX _ _ hxxs)) (by (first | lia | omega)) (by (first | lia | omega)) hxj ?_
                      walk_at "g"
                      walk_at "w"
                      refine w_item (S.ext _ _ (eX _ _ hD7)) (by (first | lia | omega)) (by (first | lia | omega)) (by simpa using hpv) ?_
                      obtain ⟨xv, hxv2, lxv⟩ := hxl.get (i := k) (d := pickD col.items (some k)) (by rw [pickD_lt (by (first | lia | omega))]; exact List.getElem?_eq_getElem _)
                      refine w_item (S.ext _ _ (eX _ _ hxv)) (by (first | lia | omega)) (by (first | lia | omega)) (by simpa using hxv2) ?_
                      walk_at "w"
                      exact ⟨rfl, _, lxv, by assumption⟩
                · rintro fl h15 ⟨rfl, dv, ldv, S15⟩
                  have hdl : (pickD col.items p).canLay0 = true := pickD_lay hlay
                  walk_at "w"
                  walk_at "g"
                  walk_at "w"
                  refine w_item (S15.ext _ _ (eX _ _ hyxs)) (by (first | lia | omega)) (by (first | lia | omega)) hyj ?_
                  walk_at "g"
                  walk_at "w"
                  refine w_item (S15.ext _ _ (eX _ _ hyv)) (by (first | lia | omega)) (by (first | lia | omega)) (by simpa using hyv2) ?_
                  walk_at "w"
                  refine w_neL rm.deeper lyv ldv hdl ?_
                  walk_at "wd"
                  walk_at "g"
                  walk_at "w"
                  refine w_item (S15.ext _ _ (eX _ _ hyxs)) (by (first | lia | omega)) (by (first | lia | omega)) hyj ?_
                  walk_at "g"
                  walk_at "w"
                  walk_at "g"
                  walk_at "w"
                  refine w_item (S15.ext _ _ (eX _ _ hxxs)) (by (first | lia | omega)) (by (first | lia | omega)) hxj ?_
                  walk_at "g"
                  walk_at "w"
                  rw [show (cy.k != cx.k) = false by rw [eky, ekx]; exact bne_self_eq_false _]
                  walk_at "wd"
                  refine ⟨.inl rfl, P2, (ci, o') :: fr ++ G, _, Ext.rfl, ?_, S15⟩
                  exact ⟨by with_unfolding_all exact k0, by with_unfolding_all exact k1, by with_unfolding_all exact k2, by with_unfolding_all exact k3, by with_unfolding_all exact k4, by with_unfolding_all exact k5, by with_unfolding_all exact k6, by with_unfolding_all exact k8, rfl⟩
              · rintro P2 fr2 m2 h16 e2 ⟨d0, d1, d2, d3, d4, d5, d6, d8, rfl⟩ S16
                walk_at "w"
                exact ⟨.inl rfl, P2, (ci, o') :: fr, _, e2, ⟨d0, d1, d2, d3, d4, d8, rfl⟩, S16⟩
  · rintro P' fr' m' h' e ⟨n0, n1, n2, n3, n4, n5, rfl⟩ S'
    walk_at "w"
    exact ⟨P', o', [], (((e1.trans e3).trans e4).trans eD).trans e, S'.sep, rfl, rfl⟩

set_option maxHeartbeats 400000
def pickF (ps : List (Option Nat)) (f : Fm) : Fm := ⟨f.cols.map (pickCol ps), f.names, f.lk, ps.map (pickD f.labs)⟩
structure PF (f : Fm) (n : Nat) : Prop where
  ok : FOk f
  lay : LayF f
  n9 : n ≤ 100
  ncols : 1 ≤ f.cols.length ∧ f.cols.length ≤ 3
  items : ∀ c ∈ f.cols, c.items.length = n
  labs : f.labs.length = n
theorem FrOk.pf {f : Fm} {n : Nat} (h : FrOk f n) : PF f n :=
  ⟨h.ok, ⟨fun c hc => ⟨h.ok.cols c hc, h.lay c hc⟩, h.lkOk, h.layL, h.layN⟩, by have := h.hi6; (first | lia | omega), h.ncols, h.items, h.labs⟩
theorem PickL.good {f : Fm} {ps : List (Option Nat)} {k : Str} {labs : List PyData} (h : PickL f ps k labs) (g : Good f.labs.length ps) : k = f.lk ∧ labs = ps.map (pickD f.labs) := by
  rcases h with ⟨_, a, b⟩ | ⟨a, _⟩
  · exact ⟨a, b⟩
  · exact absurd g a
theorem PickAt.good {C : Cx} {P : Heap} {f : Fm} {ps : List (Option Nat)} {v : Value} (h : PickAt C P f ps v) (g : Good f.labs.length ps) : ∃ y, v = .ref y ∧ FrameAt C P y (pickF ps f) := by
  obtain ⟨y, k, labs, e, hf, hp⟩ := h
  obtain ⟨rfl, rfl⟩ := hp.good g
  exact ⟨y, e, hf⟩
theorem PF.pick {f : Fm} {n : Nat} {ps : List (Option Nat)} (h : PF f n) (g : Good n ps) (hz : ps.length ≤ 100) : PF (pickF ps f) ps.length := by
  have hl : ∀ d ∈ ps.map (pickD f.labs), d ∈ f.labs := fun d hd => by
    obtain ⟨p, hp, rfl⟩ := List.mem_map.mp hd
    obtain ⟨j, rfl, hj⟩ := g.1 p hp
    rw [pickD_lt (by rw [h.labs]; exact hj)]
    exact List.getElem_mem _
  refine ⟨⟨fun c hc => ?_, fun d hd => h.ok.labs d (hl d hd), fun d hd => h.ok.short d (hl d hd)⟩, ⟨fun c hc => ?_, h.lay.lk, layAll.mpr fun d hd => layAll.mp h.lay.labs d (hl d hd), h.lay.names⟩, hz, by show 1 ≤ (f.cols.map _).length ∧ (f.cols.map _).length ≤ 3; rw [List.length_map]; exact h.ncols, fun c hc => ?_, by show (ps.map _).length = _; rw [List.length_map]⟩
  · obtain ⟨c', hc', rfl⟩ := List.mem_map.mp hc
    exact h.ok.cols c' hc'
  · obtain ⟨c', hc', rfl⟩ := List.mem_map.mp hc
    refine ⟨h.ok.cols c' hc', layAll.mpr fun d hd => ?_⟩
    obtain ⟨p, hp, rfl⟩ := List.mem_map.mp hd
    exact pickD_lay (h.lay.cols c' hc').2
  · obtain ⟨c', hc', rfl⟩ := List.mem_map.mp hc
    show (ps.map _).length = _
    rw [List.length_map]
theorem getD_lt {l : List Nat} {j : Nat} (h : j < l.length) : l.getD j 0 = l[j] := by
  rw [List.getD_eq_getElem?_getD, List.getElem?_eq_getElem h]; rfl
theorem pickD_pick {ds : List PyData} {ps : List Nat} {j : Nat} (h : j < ps.length) : pickD ((ps.map some).map (pickD ds)) (some j) = pickD ds (some (ps.getD j 0)) := by
  rw [pickD_lt (by simpa using h), List.getElem_map, List.getElem_map, getD_lt h]
theorem pickF_pickF {f : Fm} {ps1 ps2 : List Nat} (h : ∀ p ∈ ps2, p < ps1.length) : pickF (ps2.map some) (pickF (ps1.map some) f) = pickF ((ps2.map fun j => ps1.getD j 0).map some) f := by
  have key : ∀ ds : List PyData, (ps2.map some).map (pickD ((ps1.map some).map (pickD ds))) = ((ps2.map fun j => ps1.getD j 0).map some).map (pickD ds) := fun ds => by
    refine List.map_map.trans ((List.map_congr_left (g := fun j => pickD ds (some (ps1.getD j 0))) fun j hj => pickD_pick (h j hj)).trans ?_)
    rw [List.map_map, List.map_map]; rfl
  unfold pickF
  congr 1
  · rw [List.map_map]
    refine List.map_congr_left fun c _ => ?_
    show Col.mk _ _ _ = Col.mk _ _ _
    congr 1
    exact key c.items
  · exact key f.labs
theorem pick_range {ds : List PyData} {n : Nat} (h : ds.length = n) : ((List.range n).map some).map (pickD ds) = ds := by
  refine List.ext_getElem (by simp [h]) fun i h1 h2 => ?_
  rw [List.getElem_map, List.getElem_map, List.getElem_range, pickD_lt h2]
theorem pickF_range {f : Fm} {n : Nat} (h : PF f n) : pickF ((List.range n).map some) f = f := by
  unfold pickF
  rw [pick_range h.labs]
  have : f.cols.map (pickCol ((List.range n).map some)) = f.cols := by
    refine (List.map_congr_left fun c hc => ?_).trans (List.map_id f.cols)
    show Col.mk _ _ _ = c
    rw [pick_range (h.items c hc)]
  rw [this]
theorem pickF_inv {f : Fm} {n : Nat} {ps inv : List Nat} (h : PF f n) (hp : ps.length = n) (hi : inv.length = n) (hinv : ∀ a (ha : a < inv.length), inv[a] < ps.length ∧ ps.getD inv[a] 0 = a) : pickF (inv.map some) (pickF (ps.map some) f) = f := by
  rw [pickF_pickF fun p hp' => by
    obtain ⟨a, ha, rfl⟩ := List.mem_iff_getElem.mp hp'
    exact (hinv a ha).1]
  have e : (inv.map fun j => ps.getD j 0) = List.range n := by
    refine List.ext_getElem (by simp [hi]) fun i h1 h2 => ?_
    rw [List.getElem_map, List.getElem_range]
    exact (hinv i (by simpa using h1)).2
  rw [e, pickF_range h]
theorem good_nats {n : Nat} {ps : List Nat} (h : ∀ p ∈ ps, p < n) (nd : ps.Nodup) : Good n (ps.map some) := by
  refine ⟨fun p hp => ?_, List.pairwise_map.mpr (nd.imp fun h e => h (Option.some.inj e))⟩
  obtain ⟨j, hj, rfl⟩ := List.mem_map.mp hp
  exact ⟨j, rfl, h j hj⟩
theorem good_perm {n : Nat} {ps : List Nat} (h : ps.Perm (List.range n)) : Good n (ps.map some) :=
  good_nats (fun p hp => List.mem_range.mp (h.mem_iff.mp hp)) (h.nodup_iff.mpr List.nodup_range)
theorem rng_eq (a n : Nat) : rng a n = ((List.range n).map (a + ·)).map some := by
  unfold rng
  rw [List.map_map]; rfl
theorem good_rng {a m n : Nat} (h : a + m ≤ n) : Good n (rng a m) := by
  rw [rng_eq]
  refine good_nats (fun p hp => ?_) (List.pairwise_map.mpr (List.nodup_range.imp fun h e => h (by (first | lia | omega))))
  obtain ⟨j, hj, rfl⟩ := List.mem_map.mp hp
  have := List.mem_range.mp hj
  (first | lia | omega)
theorem rng_len {a n : Nat} : (rng a n).length = n := by simp [rng]
theorem rng_join {m n : Nat} (h : m ≤ n) : rng 0 m ++ rng m (n - m) = (List.range n).map some := by
  have e : List.range n = List.range m ++ (List.range (n - m)).map (m + ·) := by
    rw [← List.range_add]; congr 1; (first | lia | omega)
  rw [rng_eq, rng_eq, e, List.map_append]
  congr 2
  simp
theorem join_cols (ps qs : List (Option Nat)) (cs : List Col) : List.zipWith joinCol (cs.map (pickCol ps)) (cs.map (pickCol qs)) = cs.map (pickCol (ps ++ qs)) := by
  induction cs with
  | nil => rfl
  | cons c cs ih =>
    simp only [List.map_cons, List.zipWith_cons_cons, ih]
    congr 1
    show Col.mk _ _ _ = Col.mk _ _ _
    rw [List.map_append]
    rfl
theorem join_rng {f : Fm} {m n : Nat} (h : PF f n) (hm : m ≤ n) : f = ⟨List.zipWith joinCol (pickF (rng 0 m) f).cols (pickF (rng m (n - m)) f).cols, (pickF (rng 0 m) f).names, (pickF (rng 0 m) f).lk, (pickF (rng 0 m) f).labs ++ (pickF (rng m (n - m)) f).labs⟩ := by
  have e := pickF_range h
  rw [← rng_join hm] at e
  refine e.symm.trans ?_
  show Fm.mk _ _ _ _ = Fm.mk _ _ _ _
  congr 1
  · exact (join_cols _ _ _).symm
  · exact List.map_append
theorem weight_small {ns : List Int} (h : ∀ n ∈ ns, 0 ≤ n ∧ n < 128) : PyData.weightAll (ns.map .int) ≤ ns.length * 8 := by
  induction ns with
  | nil => exact Nat.le_refl _
  | cons n ns ih =>
    have i := ih fun k hk => h k (.tail _ hk)
    have a := h n (.head _)
    have w : PyData.weight (.int n) ≤ 7 := by
      unfold PyData.weight
      split
      · (first | lia | omega)
      · rename_i ne
        have h0 : n.natAbs ≠ 0 := fun z => ne (by simp; (first | lia | omega))
        have := (Nat.log2_lt h0).mpr (show n.natAbs < 2 ^ 7 by (first | lia | omega))
        (first | lia | omega)
    simp only [List.map_cons, PyData.weightAll, List.length_cons]
    (first | lia | omega)
theorem ints_lay {ns : List Int} (h : ∀ n ∈ ns, 0 ≤ n ∧ n < 128) (hz : ns.length ≤ 1000) : PyData.layable0 (.list (ns.map .int)) = true := by
  have w := weight_small h
  have c : PyData.canLayAll0 (ns.map .int) = true := layAll.mpr fun d hd => by
    obtain ⟨k, _, rfl⟩ := List.mem_map.mp hd; rfl
  have dp : ∀ l : List Int, PyData.depthAll (l.map .int) = 0 := fun l => by
    induction l with
    | nil => rfl
    | cons a l ih => simp [PyData.depthAll, PyData.depth, ih]
  unfold PyData.layable0
  have c0 : (PyData.list (ns.map .int)).canLay0 = true := c
  have d0 : (PyData.list (ns.map .int)).depth ≤ 64 := by
    show PyData.depthAll (ns.map .int) + 1 ≤ 64
    rw [dp]; (first | lia | omega)
  have w0 : (PyData.list (ns.map .int)).weight ≤ 2 ^ 20 := by
    show PyData.weightAll (ns.map .int) ≤ 2 ^ 20
    (first | lia | omega)
  rw [c0, decide_eq_true d0, decide_eq_true w0]; rfl
theorem ints_of {vs : List Value} : ∀ {ps : List Nat}, Lfs vs ((ps.map some).map plD) → IntsAre vs (ps.map fun n : Nat => (n : Int)) := by
  induction vs with
  | nil =>
    intro ps h
    cases ps with
    | nil => exact .nil
    | cons p ps => cases h
  | cons v vs ih =>
    intro ps h
    cases ps with
    | nil => cases h
    | cons p ps =>
      cases h with
      | cons a b =>
        cases a
        exact .cons _ _ (ih b)
section
variable {C : Cx} {A : Around} {P : Heap} {fr : Own} {L : Addr} {m : Str → Option Value} {h : Heap} {Q : Value → Heap → Prop} {n : Nat}
theorem w_index {l : Addr} {vs : List Value} {k a : Nat} {ps : List Nat} {t : Tok} (e : h.get? l = some (LO vs k)) (hl : Lfs vs ((ps.map some).map plD)) (hz : ps.length ≤ 100) (hb : ∀ p ∈ ps, p < 100) (ha : a ∈ ps)
    (q : ∀ (j : Nat) t, j < ps.length → ps.getD j 0 = a → Q (.int j t) h) : W C A (call (.builtin "list.index") [.ref l, .int a t]) Q h :=
  W.of fun _ _ g => by
    have hm : (a : Int) ∈ ps.map fun n : Nat => (n : Int) := List.mem_map.mpr ⟨a, ha, rfl⟩
    have hlt := List.idxOf_lt_length_iff.mpr hm
    have hge := List.getElem_idxOf hlt
    rw [List.getElem_map] at hge
    rw [List.length_map] at hlt
    refine index_list_ints (isList_of e) (ints_of hl) (ints_lay (fun n hn => ?_) (by rw [List.length_map]; (first | lia | omega))) hm (g _ _ _ (q _ _ hlt ?_))
    · obtain ⟨p, hp, rfl⟩ := List.mem_map.mp hn
      have := hb p hp
      (first | lia | omega)
    · rw [getD_lt hlt]
      (first | lia | omega)
theorem w_listaddI {l b : Addr} {xs ys : List Value} {n : Nat} (S : St C P fr L m h) (e : h.IsList l xs.toArray) (e' : h.get? b = some (LO ys n)) (hz : xs.length + ys.length ≤ sizeLine)
    (q : ∀ a h', St C P ((a, LO (xs ++ ys) 0) :: fr) L m h' → Q (.ref a) h') : W C A (binaryOp .Add (.ref l) (.ref b)) Q h :=
  W.of fun _ _ g => add_arrays S.fr0 S.news0 e (isList_of e') (fun h' F N => g _ _ _ (q _ _ (S.back1 F (by simpa using N) (none_size h)))) (by simpa using hz)
end

set_option maxHeartbeats 2000000
def f0 : Fm := ⟨[⟨"integer", [.int 5, .int 6], false⟩], ["a"], "character", [.str "u", .str "v"]⟩
theorem f0_pf : FOk f0 := by
  refine ⟨fun c hc => ?_, fun d hd => ?_, ?_⟩
  · rw [List.mem_singleton.mp hc]; exact .inl rfl
  · have : d = .str "u" ∨ d = .str "v" := by simpa [f0] using hd
    rcases this with rfl | rfl
    · exact .inr ⟨rfl, _, rfl⟩
    · exact .inr ⟨rfl, _, rfl⟩
  · decide +kernel
theorem f0_good : Good f0.labs.length [some 1, some 0] := by
  refine ⟨fun p hp => ?_, by decide⟩
  have : p = some 1 ∨ p = some 0 := by simpa using hp
  rcases this with rfl | rfl
  · exact ⟨1, rfl, by decide⟩
  · exact ⟨0, rfl, by decide⟩
theorem f0_labs : (pickF [some 1, some 0] f0).labs.map (labelOf (pickF [some 1, some 0] f0).lk) = [.str "v", .str "u"] := by with_unfolding_all rfl
theorem intsAre_all {vs : List Value} {ns : List Int} (h : IntsAre vs ns) : ∀ v ∈ vs, ∃ i t, v = .int i t := by
  induction h with
  | nil => intro v hv; cases hv
  | cons n t _ ih =>
    intro v hv
    rcases List.mem_cons.mp hv with rfl | hv
    · exact ⟨_, _, rfl⟩
    · exact ih v hv
theorem head_pos {n high r : Nat} (e : n = high) : headN n (r : Int) = min r high := by unfold headN; rw [if_neg (by omega)]; omega
theorem head_neg {n high r : Nat} (e : n = high) (h : 0 < r) : headN n (0 - (r : Int)) = high - r := by unfold headN; rw [if_pos (by omega)]; omega
theorem tail_pos {n high r : Nat} (e : n = high) : tailA n (r : Int) = high - r := by unfold tailA; rw [if_neg (by omega)]; omega
theorem tail_neg {n high r : Nat} (e : n = high) (h : 0 < r) : tailA n (0 - (r : Int)) = min r high := by unfold tailA; rw [if_pos (by omega)]; omega
theorem tail_zero {n high : Nat} (e : n = high) : tailA n 0 = high := by unfold tailA; rw [if_neg (by omega)]; omega
theorem fit1 {n high r : Nat} (e : n = high) : 0 + min r high ≤ n := by omega
theorem fit2 {n high r : Nat} (e : n = high) : min r high + (n - min r high) ≤ n := by omega
theorem fit3 {n high r : Nat} (e : n = high) : 0 + (high - r) ≤ n := by omega
theorem fit4 {n high r : Nat} (e : n = high) : high - r + (n - (high - r)) ≤ n := by omega
theorem cast_min {a r high : Nat} (e : a = min r high) : ((a : Nat) : Int) = min (r : Int) (high : Int) := by omega
theorem c_law {C : Cx} {A : Around} {P : Heap} {fr : Own} {h : Heap} {sl : Addr} {vs : List Value} {ns : List Int} {n : Nat} (rm : Rm A (n + 12)) (S : Sep C P fr h) (hl : P.IsList sl vs.toArray) (hI : IntsAre vs ns) (hz : vs.length ≤ 63) :
    W C A (call (.ref 391) [.ref sl]) (fun v h' => ∃ P', Ext P P' ∧ Sep C P' fr h' ∧ v = .bool true) h := by
  refine (WK.w ?_)
  refine' k_defC (binds := [("script", .ref sl)]) S rm ?ho ?hcd ?hb ?hl ?hc ?h6 ?h7 ?h8 ?_
  walk_at "sidesC"
  intro L h1 cells S1 _ Y
  obtain ⟨o1, rfl, d1⟩ := CellsAre.one Y
  replace d1 : o1.data = .cell none := d1.trans (by with_unfolding_all rfl)
  replace S1 : St C P ((L + 1, o1) :: fr) L (bindL (fun x => if x = "first" then some NameKind.cell else some NameKind.local) [("script", .ref sl)] fun _ => none) h1 := by with_unfolding_all exact S1
  walk_at "w"
  refine w_newList S1 (fun z h2 S2 => ?_)
  have hl2 : h2.IsList sl vs.toArray := by
    obtain ⟨ob, e, r⟩ := hl
    exact ⟨ob, S2.ext _ _ e, r⟩
  refine w_listaddI S2 hl2 (S2.sep.own (z, LO [_] 0) (.head _)) (by rw [sizeLine_eq]; simp; (first | lia | omega)) (fun z2 h3 S3 => ?_)
  walk_at "w"
  refine ⟨_, _, _, _, S3, fun sl2 h4 S4 => ?_⟩
  refine w_lslice (k := 40) S4 (S4.sep.own (z2, _) (.tail _ (.head _))) (S4.sep.own _ (.head _)) (by simp; (first | lia | omega)) (fun cl h5 S5 => ?_)
  obtain ⟨P1, e1, S6, hcl⟩ := S5.freeze1
  replace S6 := S6.drop.drop.drop
  walk_at "w"
  refine w_newList S6 (fun ci h6 S7 => ?_)
  walk_at "w"
  have hci0 : ∀ {P' : Heap} {ka kb : Tok}, Ext P1 P' → Cis C P' 0 (LO [.int 0 ka, .ref cl, .int 0 kb] 0) := fun {P' ka kb} e => ⟨0, ka, cl, 0, kb, _, _, LOb.of, ⟨by decide, by decide, by decide, by decide, e _ _ hcl, fun v hv => by
    have hv' := List.mem_of_mem_take hv
    rcases List.mem_append.mp hv' with hv' | hv'
    · exact intsAre_all hI v hv'
    · exact ⟨_, _, List.mem_singleton.mp hv'⟩, by simp; (first | lia | omega), by simp; (first | lia | omega)⟩⟩
  walk_at "S"
  refine w_newList S (fun l56 h7 S8 => ?_)
  walk_at "w"
  refine S8.callO (fun fr' S' => c_integer (n := n) rm.deeper.up S' (S8.sep.own (l56, LO [_, _] 0) (.head _)) (Nat.le_of_ble_eq_true rfl)) fun v' P2 own h8 e2 S9 hx9 => ?_
  obtain ⟨x, dx, it, n', t1, t2, t3, t4, t5, tk, ev, hx, hit, ho'⟩ := hx9
  subst ev; subst ho'
  replace S9 := (show St C P2 ((dx, VD C t1 t2 t3 t4 t5 (.str "integer" tk) (.ref it) .none (.bool false) (.bool false)) :: (l56, LO [_, _] 0) :: (ci, _) :: (L + 1, o1) :: fr) L _ h8 from S9)
  walk_at "w"
  refine w_newList S9 (fun lc h9 S10 => ?_)
  obtain ⟨P3, e3, S11, hlc⟩ := S10.freeze1
  walk_at "w"
  refine w_newList S11 (fun la h10 S12 => ?_)
  obtain ⟨P4, e4, S13, hla⟩ := S12.freeze1
  walk_at "w"
  refine w_newList S13 (fun luv h11 S14 => ?_)
  walk_at "w"
  refine S14.callO (fun fr' S' => c_character (n := n) rm.deeper.up S' (S14.sep.own (luv, LO [_, _] 0) (.head _)) (Nat.le_of_ble_eq_true rfl)) fun v' P5 own h12 e5 S15 hx9 => ?_
  obtain ⟨rx, rdx, rit, rn', r1, r2, r3, r4, r5, rk, ev, hrx, hrit, ho'⟩ := hx9
  subst ev; subst ho'
  obtain ⟨P6, e6, S16, hF6⟩ := S15.freeze (own := [(rdx, VD C r1 r2 r3 r4 r5 (.str "character" rk) (.ref rit) .none (.bool false) (.bool false)), (luv, LO [_, _] 0)]) (fr := (dx, VD C t1 t2 t3 t4 t5 (.str "integer" tk) (.ref it) .none (.bool false) (.bool false)) :: (l56, LO [_, _] 0) :: (ci, _) :: (L + 1, o1) :: fr)
  have hpl : Plain C P6 rx "character" [.str "u", .str "v"] := ⟨⟨rx, rdx, rit, r1, r2, r3, r4, r5, rk, "character", .none, .bool false, .bool false⟩, rfl, rfl, rfl, e6 _ _ hrx, hF6 (rdx, _) (.head _), _, rn', e6 _ _ hrit, .cons (.str _ _) (.cons (.str _ _) .nil), Nat.le_of_ble_eq_true rfl⟩
  have e36 := (e3.trans e4).trans (e5.trans e6)
  have hcol : ColIs C P6 ⟨x, dx, it, t1, t2, t3, t4, t5, tk, "integer", .none, .bool false, .bool false⟩ ⟨"integer", [.int 5, .int 6], false⟩ := ⟨rfl, e36 _ _ hx, ⟨_, n', e36 _ _ hit, .cons (.int _ _) (.cons (.int _ _) .nil), Nat.le_of_ble_eq_true rfl⟩, .inl ⟨rfl, rfl⟩⟩
  walk_at "w"
  refine S16.callC (own := ownC C [⟨x, dx, it, t1, t2, t3, t4, t5, tk, "integer", .none, .bool false, .bool false⟩]) (fun fr' S' => c_new_frame (n := n) (names := ["a"]) rm.deeper.up S' (.cons hcol .nil) ((e4.trans (e5.trans e6)) _ _ hlc) (Nat.le_of_ble_eq_true rfl) ((e5.trans e6) _ _ hla) (.cons (.str _ _) .nil) (Nat.le_of_ble_eq_true rfl) hpl) fun v' P7 h13 e7 S17 hx9 => ?_
  obtain ⟨pr, ev, hpr⟩ := hx9
  subst ev
  replace S17 := S17.drop
  walk_at "w"
  walk_at "S"
  refine w_newList S (fun l10 h14 S18 => ?_)
  obtain ⟨P8, e8, S19, hl10⟩ := S18.freeze1
  walk_at "w"
  refine S19.call (fun fr' S' => c_order_frame (n := n) (f := f0) (ps := [some 1, some 0]) rm.deeper.up S' (hpr.ext e8) f0_pf (by decide) hl10 (.cons (.int _ _) (.cons (.int _ _) .nil)) (Nat.le_of_ble_eq_true rfl)) fun v P9 h15 e9 S20 hv => ?_
  obtain ⟨yp, rfl, hyp⟩ := PickAt.good hv f0_good
  walk_at "w"
  refine S20.call (fun fr' S' => c_row_names (n := n) rm.deeper.up S' hyp (PickL.labOk (f := f0) (ps := [some 1, some 0]) f0_pf (.inl ⟨f0_good, rfl, rfl⟩))) fun v P10 h16 e10 S21 hx9 => ?_
  obtain ⟨lvu, vvs, vn, ev, hvu, hvl, hvz⟩ := hx9
  subst ev
  rw [f0_labs] at hvl
  walk_at "w"
  refine w_newList S21 (fun lq h17 S22 => ?_)
  refine w_neLs rm.deeper (S22.ext _ _ hvu) (S22.sep.own (lq, LO [_, _] 0) (.head _)) hvl (.cons (.str _ _) (.cons (.str _ _) .nil)) (by decide +kernel) ?_
  walk_at "wd"
  replace S22 := S22.drop
  have E10 := e1.trans ((((e2.trans e36).trans e7).trans e8).trans (e9.trans e10))
  have E110 := (((e2.trans e36).trans e7).trans e8).trans (e9.trans e10)
  refine w_settup ?_ (by with_unfolding_all rfl) (by with_unfolding_all rfl)
  walk_at "w"
  refine S22.callMO (i := 0) rfl (fun fr' S' => c_frame (n := n) rm.deeper.up S' (hci0 E110) (by (first | lia | omega))) fun v P11 oc1 own h18 e11 S23 hx9 => ?_
  obtain ⟨hc1, eo, tp, x, th, high, tn, f, ev, htp, hfx, hF⟩ := hx9
  subst eo; subst ev
  replace S23 := (show St C P11 ((ci, oc1) :: (L + 1, o1) :: fr) L _ h18 from S23)
  have hi6 := hF.hi6
  have hp := hF.pf
  refine w_unpack rm.deeper.handled S23 (S23.ext _ _ htp) (by with_unfolding_all rfl) (by with_unfolding_all rfl) (fun h19 S24 => ?_)
  walk_at "w"
  walk_at "S"
  refine S.callMO (i := 0) rfl (fun fr' S' => c_order (n := n) (high := high) rm.deeper.up S' hc1 (by (first | lia | omega)) (by (first | lia | omega))) fun v P12 oc2 own h20 e12 S25 hx9 => ?_
  obtain ⟨hc2, eo, l1, v1, k1, ps1, ev, hl1, hv1, hpm1⟩ := hx9
  subst eo; subst ev
  replace S25 := (show St C P12 ((ci, oc2) :: (L + 1, o1) :: fr) L _ h20 from S25)
  refine w_st_cell (i := 1) S25 (by with_unfolding_all rfl) rfl d1 (fun h21 o2 d2 S26 => ?_) (by with_unfolding_all rfl) (by with_unfolding_all rfl)
  replace S26 := (show St C P12 ((ci, oc2) :: (L + 1, o2) :: fr) L _ h21 from S26)
  walk_at "w"
  refine S26.callMO (i := 0) rfl (fun fr' S' => c_order (n := n) (high := high) rm.deeper.up S' hc2 (by (first | lia | omega)) (by (first | lia | omega))) fun v P13 oc3 own h22 e13 S27 hx9 => ?_
  obtain ⟨hc3, eo, l2, v2, k2, ps2, ev, hl2', hv2, hpm2⟩ := hx9
  subst eo; subst ev
  replace S27 := (show St C P13 ((ci, oc3) :: (L + 1, o2) :: fr) L _ h22 from S27)
  have g1 := good_perm hpm1
  have g2 := good_perm hpm2
  have hps1l : ps1.length = high := by simpa using hpm1.length_eq
  have hps2l : ps2.length = high := by simpa using hpm2.length_eq
  have hv1l := hv1.length
  have hv2l := hv2.length
  simp only [List.length_map] at hv1l hv2l
  have hf13 := hfx.ext (e12.trans e13)
  walk_at "w"
  walk_at "S"
  have hnc := hF.ncols
  refine S.call (fun fr' S' => c_order_frame (n := n) (f := f) (ps := ps1.map some) rm.deeper.up S' hf13 hF.ok (by (first | lia | omega)) (e13 _ _ hl1) hv1 (by (first | lia | omega))) fun v P14 h23 e14 S28 hv => ?_
  obtain ⟨y1, rfl, hy1⟩ := PickAt.good hv (by rw [hF.labs]; exact g1)
  have q1 : PF (pickF (ps1.map some) f) high := by
    have := hp.pick g1 (by rw [List.length_map]; (first | lia | omega))
    rwa [List.length_map, hps1l] at this
  have hnc1 := q1.ncols
  walk_at "w"
  walk_at "S"
  refine S.call (fun fr' S' => c_plain (n := n) rm.deeper.up S' hy1 (by (first | lia | omega))) fun v P15 h24 e15 S29 hpl1 => ?_
  walk_at "w"
  refine S29.call (fun fr' S' => c_moved (n := n) (f := f) (ps := ps1) (high := high) rm.deeper.up S' (hf13.ext (e14.trans e15)) (by (first | lia | omega)) ((e13.trans (e14.trans e15)) _ _ hl1) hv1 (by (first | lia | omega)) (fun p hp => List.mem_range.mp (hpm1.mem_iff.mp hp)) hF.labs hF.items (by (first | lia | omega))) fun v' P16 h25 e16 S30 hpl2 => ?_
  refine w_neP (f := pickF (ps1.map some) f) rm.deeper S30.ext (hpl1.ext e16) hpl2 q1.lay ?_
  walk_at "wd"
  have hy16 := hy1.ext (e15.trans e16)
  have e1316 := e14.trans (e15.trans e16)
  refine S30.call (fun fr' S' => c_order_frame (n := n) (f := pickF (ps1.map some) f) (ps := ps2.map some) rm.deeper.up S' hy16 q1.ok (by (first | lia | omega)) (e1316 _ _ hl2') hv2 (by (first | lia | omega))) fun v P17 h26 e17 S31 hv => ?_
  obtain ⟨y2, rfl, hy2⟩ := PickAt.good hv (by rw [q1.labs]; exact g2)
  have q2 : PF (pickF (ps2.map some) (pickF (ps1.map some) f)) high := by
    have := q1.pick g2 (by rw [List.length_map]; (first | lia | omega))
    rwa [List.length_map, hps2l] at this
  have hnc2 := q2.ncols
  walk_at "w"
  refine S31.call (fun fr' S' => c_plain (n := n) rm.deeper.up S' hy2 (by (first | lia | omega))) fun v P18 h27 e18 S32 hpl3 => ?_
  walk_at "w"
  have e1318 := e1316.trans (e17.trans e18)
  have hps2 : ∀ p ∈ ps2, p < high := fun p hp => List.mem_range.mp (hpm2.mem_iff.mp hp)
  have hps1 : ∀ p ∈ ps1, p < high := fun p hp => List.mem_range.mp (hpm1.mem_iff.mp hp)
  refine w_comp0 L rm.deeper.handled (.name _ _) (by with_unfolding_all rfl) rfl (by decide) (fun _ => rfl) ?_
  walk_at "w"
  refine w_iter_list S32 (S32.ext _ _ (e1318 _ _ hl2')) (fun I oI h28 ok it S33 e28 => ?_)
  refine ⟨_, _, _, I, oI, _, _, _, _, rfl, it, S33, ok, by rw [sizeLine_eq]; (first | lia | omega), fun i P' fr' zs => fr' = (ci, oc3) :: (L + 1, o2) :: fr ∧ Lfs zs ((((ps2.map fun j => ps1.getD j 0).map some).map plD).take i), ⟨rfl, .nil⟩, ?_, ?_, ?_⟩
  · intro i P' fr' ys G Lc mc h' e he S
    exact isList_of (S.ext _ _ (e _ _ (e1318 _ _ hl2')))
  · rintro Lc i kv P' fr' zs G mc h' hi hkv e ⟨rfl, hzs⟩ hzl S
    have hi' : i < ps2.length := by (first | lia | omega)
    obtain ⟨q, hq, lf⟩ := hv2.get (i := i) (d := plD (some ps2[i])) (by simp [hi'])
    rw [hkv] at hq
    cases hq
    have hpj := hps2 _ (List.getElem_mem hi')
    have e4 : (((ps2.map fun j => ps1.getD j 0).map some).map plD).take (i + 1) = (((ps2.map fun j => ps1.getD j 0).map some).map plD).take i ++ [plD (some (ps1.getD ps2[i] 0))] := by
      rw [List.take_add_one]
      simp [hi']
    generalize ps2[i] = p at *
    cases lf with
    | int _ t9 =>
    have hpc : p < ps1.length := by (first | lia | omega)
    obtain ⟨y, hy, ly⟩ := hv1.get (i := p) (d := plD (some (ps1.getD p 0))) (by rw [getD_lt hpc]; simp [hpc])
    walk_at "w"
    refine w_item (St.ext (by assumption) _ _ ((e13.trans (e1318.trans e)) _ _ hl1)) (by (first | lia | omega)) (by (first | lia | omega)) (by simpa using hy) ?_
    (try walk_at "w")
    exact ⟨_, _, _, Ext.rfl, ⟨rfl, by rw [e4]; exact hzs.append (.cons ly .nil)⟩, by assumption⟩
  rintro P19 fr9 zs D9 n9 e19 ⟨rfl, hzs⟩ hzl h29 S34
  rw [List.take_of_length_le (by rw [List.length_map, List.length_map, List.length_map]; (first | lia | omega))] at hzs
  obtain ⟨P20, e20, S35, hD9⟩ := S34.freeze1
  replace S35 := (show St C P20 ((ci, oc3) :: (L + 1, o2) :: fr) L _ h29 from S35)
  walk_at "w"
  have e1320 := e1318.trans (e19.trans e20)
  refine S35.call (fun fr' S' => c_moved (n := n) (f := f) (ps := ps2.map fun j => ps1.getD j 0) (high := high) rm.deeper.up S' (hf13.ext e1320) (by (first | lia | omega)) hD9 hzs (by (first | lia | omega)) ?_ hF.labs hF.items (by (first | lia | omega))) fun v' P21 h30 e21 S36 hpl4 => ?_
  · intro p hp
    obtain ⟨j, hj, rfl⟩ := List.mem_map.mp hp
    have hj9 : j < ps1.length := by have := hps2 j hj; (first | lia | omega)
    rw [getD_lt hj9]
    exact hps1 _ (List.getElem_mem hj9)
  have hcomp := pickF_pickF (f := f) (ps1 := ps1) (ps2 := ps2) fun p hp => by have := hps2 p hp; (first | lia | omega)
  refine w_neP (f := pickF (ps2.map some) (pickF (ps1.map some) f)) rm.deeper S36.ext (hpl3.ext ((e19.trans e20).trans e21)) (by rw [hcomp]; exact hpl4) q2.lay ?_
  walk_at "wd"
  refine w_acomp0 rm.deeper.handled (.name _ _) (by with_unfolding_all rfl) rfl (by decide) (fun _ => rfl) (by with_unfolding_all rfl) (by with_unfolding_all rfl) rfl ?_
  walk_at "w"
  refine w_range S36 (fun r t5 t6 t7 h31 S37 => ?_)
  walk_at "w"
  refine w_iter_range (k := high) S37 (S37.sep.own _ (.head _)) rfl (by (first | lia | omega)) (fun I oI h32 ok it S38 e32 => ?_)
  replace S38 := (S38.perm (List.Perm.swap ..)).drop
  have e1321 := e1320.trans e21
  refine ⟨_, _, _, I, oI, _, _, _, _, rfl, it, S38, ok, by rw [sizeLine_eq]; (first | lia | omega), fun i P' fr' zs => fr' = (ci, oc3) :: (L + 1, o2) :: fr ∧ ∃ js : List Nat, Lfs zs ((js.map some).map plD) ∧ js.length = i ∧ ∀ a (ha : a < js.length), js[a] < ps1.length ∧ ps1.getD js[a] 0 = a, ⟨rfl, [], .nil, rfl, fun a ha => (by simp at ha)⟩, ?_, ?_, ?_⟩
  · intro i P' fr' ys G Lc mc h' e he S
    trivial
  · rintro Lc i kv P' fr' zs G mc h' hi ⟨tu, rfl⟩ e ⟨rfl, js, hzs, hjl, hjs⟩ hzl S
    rw [Int.zero_add]
    walk_at "w"
    have hl19 := (e13.trans (e1321.trans e)) _ _ hl1
    refine w_m_index (St.ext (by assumption) _ _ hl19) ?_
    walk_at "w"
    refine w_index (St.ext (by assumption) _ _ hl19) hv1 (by (first | lia | omega)) (fun p hp => by have := hps1 p hp; (first | lia | omega)) (hpm1.mem_iff.mpr (List.mem_range.mpr hi)) (fun j tj hj hje => ?_)
    (try walk_at "w")
    refine ⟨_, _, _, Ext.rfl, ⟨rfl, js ++ [j], by rw [List.map_append, List.map_append]; exact hzs.append (.cons (.int _ _) .nil), by simp [hjl], fun a ha => ?_⟩, by assumption⟩
    by_cases hlt : a < js.length
    · rw [List.getElem_append_left hlt]; exact hjs a hlt
    · have : a = js.length := by simp at ha; (first | lia | omega)
      subst this
      rw [List.getElem_append_right (Nat.le_refl _)]
      simp only [Nat.sub_self, List.getElem_cons_zero]
      exact ⟨hj, by rw [hje, hjl]⟩
  rintro P22 fr9 zs D9 n9 e22 ⟨rfl, inv, hzs, hjl, hinv⟩ hzl h33 S39
  obtain ⟨P23, e23, S40, hDi⟩ := S39.freeze1
  replace S40 := (show St C P23 ((ci, oc3) :: (L + 1, o2) :: fr) L _ h33 from S40)
  have e1323 := e1321.trans (e22.trans e23)
  have hzsl := hzs.length
  simp only [List.length_map] at hzsl
  have gi : Good high (inv.map some) := good_nats (fun p hp => by
    obtain ⟨a, ha, rfl⟩ := List.mem_iff_getElem.mp hp
    have := (hinv a ha).1
    (first | lia | omega)) (List.pairwise_iff_getElem.mpr fun a b ha hb hab e => by
      have h1 := (hinv a ha).2
      have h2 := (hinv b hb).2
      rw [e, h2] at h1
      (first | lia | omega))
  walk_at "w"
  have hy23 := hy16.ext ((e17.trans e18).trans ((e19.trans e20).trans (e21.trans (e22.trans e23))))
  refine S40.call (fun fr' S' => c_order_frame (n := n) (f := pickF (ps1.map some) f) (ps := inv.map some) rm.deeper.up S' hy23 q1.ok (by (first | lia | omega)) hDi hzs (by (first | lia | omega))) fun v P24 h34 e24 S41 hv => ?_
  obtain ⟨y3, rfl, hy3⟩ := PickAt.good hv (by rw [q1.labs]; exact gi)
  rw [pickF_inv hp hps1l hjl hinv] at hy3
  walk_at "w"
  refine S41.call (fun fr' S' => c_plain (n := n) rm.deeper.up S' hy3 (by (first | lia | omega))) fun v P25 h35 e25 S42 hpl5 => ?_
  walk_at "w"
  have hf25 := hf13.ext (e1323.trans (e24.trans e25))
  refine S42.call (fun fr' S' => c_plain (n := n) rm.deeper.up S' hf25 (by (first | lia | omega))) fun v' P26 h36 e26 S43 hpl6 => ?_
  refine w_neP rm.deeper S43.ext (hpl5.ext e26) hpl6 hp.lay ?_
  walk_at "wd"
  have hf26 := hf25.ext e26
  rw [show ((high : Int) + 2) = ((high + 2 : Nat) : Int) by (first | lia | omega)]
  refine S43.callM (i := 0) rfl (fun fr' S' => c_ladle (n := n) (k := high + 2) rm.deeper.up S' (hc3.ext (e1323.trans ((e24.trans e25).trans e26))) (by (first | lia | omega)) (by (first | lia | omega)) (by (first | lia | omega))) fun v P27 oc4 h37 e27 S44 hx9 => ?_
  obtain ⟨hc4, r, hr, tr, ev⟩ := hx9
  subst ev
  replace S44 := (show St C P27 ((ci, oc4) :: (L + 1, o2) :: fr) L _ h37 from S44)
  have e1327 := (e1323.trans ((e24.trans e25).trans e26)).trans e27
  have hf27 := hf26.ext e27
  have hlab := hF.labs
  walk_at "w"
  walk_at "S"
  refine S.call (fun fr' S' => c_head_frame (n := n) (w := (r : Int)) rm.deeper.up S' hf27 hF.ok (by (first | lia | omega)) (by (first | lia | omega)) (by (first | lia | omega)) (by (first | lia | omega))) fun v P28 h38 e28 S45 hv => ?_
  rw [head_pos hlab] at hv
  obtain ⟨y4, rfl, hy4⟩ := PickAt.good hv (good_rng (fit1 hlab))
  have hy4c := hy4
  obtain ⟨vy, evy, hyx, hyd, ⟨yxs, yn, hyxs, hycols, hyz⟩, -⟩ := hy4c
  subst evy
  have hycl := hycols.length
  have hpc : (pickF (rng 0 (min r high)) f).cols.length = f.cols.length := by show (f.cols.map _).length = _; rw [List.length_map]
  have hx0 : 0 < yxs.length := by (first | lia | omega)
  obtain ⟨c0, hc0, cv, ecv, hcvd, ekv, hcvx, ⟨cvs, cvn, hcv, hcvl, hcvz⟩, -⟩ := hycols.get (List.getElem?_eq_getElem hx0)
  have hc0l : c0.items.length = min r high := by
    obtain ⟨c', hc', rfl⟩ := List.mem_map.mp (List.mem_of_getElem? hc0)
    show (List.map _ _).length = _
    rw [List.length_map, rng_len]
  have hcvl2 := hcvl.length
  walk_at "w"
  walk_at "g"
  walk_at "w"
  refine w_item (x := .ref cv.x) (St.ext (by assumption) _ _ hyxs) (by decide) (by decide) (by rw [ecv]; simp [hx0]) ?_
  walk_at "g"
  walk_at "w"
  refine w_len (St.ext (by assumption) _ _ hcv) (by (first | lia | omega)) (fun tq => ?_)
  walk_at "w"
  walk_at "S"
  refine w_min rm.deeper.handled S (fun tm h39 S46 => ?_)
  walk_at "w"
  rw [show (((cvs.length : Int)) != min (r : Int) (high : Int)) = false by rw [bne_eq_false_iff_eq]; exact cast_min (hcvl2.trans (by first | exact hc0l | exact (List.length_map ..).trans hc0l | simpa using hc0l))]
  walk_at "wd"
  refine ⟨fun c => ?_, fun c => ?_⟩
  · have c' : 0 < r := by simpa using c
    walk_at "w"
    refine S46.call (fun fr' S' => c_tail_frame (n := n) (w := 0 - (r : Int)) rm.deeper.up S' (hf27.ext e28) hF.ok (by (first | lia | omega)) (by (first | lia | omega)) (by (first | lia | omega)) (by (first | lia | omega))) fun v P29 h40 e29 S47 hv => ?_
    rw [tail_neg hlab c'] at hv
    obtain ⟨y5, rfl, hy5⟩ := PickAt.good hv (good_rng (fit2 hlab))
    rw [hlab] at hy5
    walk_at "w"
    refine S47.call (fun fr' S' => c_joined (n := n) (f1 := pickF (rng 0 (min r high)) f) (f2 := pickF (rng (min r high) (high - min r high)) f) (f := f) rm.deeper.up S' (hy4.ext e29) hy5 (hf27.ext (e28.trans e29)) (by (first | lia | omega)) (by show (f.cols.map _).length ≤ _; rw [List.length_map]; (first | lia | omega)) (by (first | lia | omega))
      (by show (f.cols.map _).length = (f.cols.map _).length; rw [List.length_map, List.length_map]) (join_rng hp (Nat.min_le_right _ _)) hp.lay (fun c hc => by rw [hF.items c hc]; (first | lia | omega)) (by (first | lia | omega))) fun v P30 h41 e30 S48 hv => ?_
    subst hv
    walk_at "wd"
    refine S48.call (fun fr' S' => c_head_frame (n := n) (w := 0 - (r : Int)) rm.deeper.up S' (hf27.ext (e28.trans (e29.trans e30))) hF.ok (by (first | lia | omega)) (by (first | lia | omega)) (by (first | lia | omega)) (by (first | lia | omega))) fun v P31 h42 e31 S49 hv => ?_
    rw [head_neg hlab c'] at hv
    obtain ⟨y6, rfl, hy6⟩ := PickAt.good hv (good_rng (fit3 hlab))
    walk_at "w"
    refine S49.call (fun fr' S' => c_tail_frame (n := n) (w := (r : Int)) rm.deeper.up S' (hf27.ext (e28.trans (e29.trans (e30.trans e31)))) hF.ok (by (first | lia | omega)) (by (first | lia | omega)) (by (first | lia | omega)) (by (first | lia | omega))) fun v P32 h43 e32' S50 hv => ?_
    rw [tail_pos hlab] at hv
    obtain ⟨y7, rfl, hy7⟩ := PickAt.good hv (good_rng (fit4 hlab))
    rw [hlab] at hy7
    walk_at "w"
    refine S50.call (fun fr' S' => c_joined (n := n) (f1 := pickF (rng 0 (high - r)) f) (f2 := pickF (rng (high - r) (high - (high - r))) f) (f := f) rm.deeper.up S' (hy6.ext e32') hy7 (hf27.ext (e28.trans (e29.trans (e30.trans (e31.trans e32'))))) (by show (f.cols.map _).length ≤ _; rw [List.length_map]; (first | lia | omega)) (by show (f.cols.map _).length ≤ _; rw [List.length_map]; (first | lia | omega)) (by (first | lia | omega))
      (by show (f.cols.map _).length = (f.cols.map _).length; rw [List.length_map, List.length_map]) (join_rng hp (Nat.sub_le _ _)) hp.lay (fun c hc => by rw [hF.items c hc]; (first | lia | omega)) (by (first | lia | omega))) fun v P33 h44 e33 S51 hv => ?_
    subst hv
    walk_at "wd"
    have eA := (e28.trans (e29.trans (e30.trans (e31.trans e32')))).trans e33
    walk_at "w"
    refine S51.callMO (i := 0) rfl (fun fr' S' => c_again (n := n) (high := high) rm.deeper.up S' (hc4.ext (eA)) (by (first | lia | omega)) (hf27.ext (eA)) hF) fun v PZ oz own hz' ez SZ hx9 => ?_
    obtain ⟨eo, ev⟩ := hx9
    subst eo; subst ev
    replace SZ := (show St C PZ ((ci, oz) :: (L + 1, o2) :: fr) L _ hz' from SZ)
    walk_at "w"
    exact ⟨PZ, ((E10.trans e11).trans ((e12.trans e13).trans (e1327.trans (eA)))).trans ez, SZ.drop.drop.sep, rfl⟩
  · walk_at "w"
    refine S46.call (fun fr' S' => c_tail_frame (n := n) (w := 0) rm.deeper.up S' (hf27.ext e28) hF.ok (by (first | lia | omega)) (by (first | lia | omega)) (by (first | lia | omega)) (by (first | lia | omega))) fun v P29 h40 e29 S47 hv => ?_
    rw [tail_zero hlab, hlab, Nat.sub_self] at hv
    obtain ⟨y5, rfl, hy5⟩ := PickAt.good hv (good_rng (by (first | lia | omega)))
    obtain ⟨vz, evz, hzx, hzd, ⟨zxs, zn, hzxs, hzcols, hzz⟩, -⟩ := hy5
    subst evz
    have hzcl := hzcols.length
    have hpc2 : (pickF (rng high 0) f).cols.length = f.cols.length := by show (f.cols.map _).length = _; rw [List.length_map]
    have hx1 : 0 < zxs.length := by (first | lia | omega)
    obtain ⟨c1, hc1', dv, edv, hdvd, ekd, hdvx, ⟨dvs, dvn, hdv, hdvl, hdvz⟩, -⟩ := hzcols.get (List.getElem?_eq_getElem hx1)
    have hc1l : c1.items.length = 0 := by
      obtain ⟨c', hc', rfl⟩ := List.mem_map.mp (List.mem_of_getElem? hc1')
      show (List.map _ _).length = _
      rw [List.length_map, rng_len]
    have hdvl2 := hdvl.length
    walk_at "w"
    walk_at "g"
    walk_at "w"
    refine w_item (x := .ref dv.x) (St.ext (by assumption) _ _ hzxs) (by decide) (by decide) (by rw [edv]; simp [hx1]) ?_
    walk_at "g"
    walk_at "w"
    refine w_len (St.ext (by assumption) _ _ hdv) (by (first | lia | omega)) (fun tq => ?_)
    walk_at "w"
    rw [show (((dvs.length : Int)) != 0) = false by rw [bne_eq_false_iff_eq]; (first | lia | omega)]
    walk_at "wd"
    have eA := e28.trans e29
    walk_at "w"
    refine S47.callMO (i := 0) rfl (fun fr' S' => c_again (n := n) (high := high) rm.deeper.up S' (hc4.ext (eA)) (by (first | lia | omega)) (hf27.ext (eA)) hF) fun v PZ oz own hz' ez SZ hx9 => ?_
    obtain ⟨eo, ev⟩ := hx9
    subst eo; subst ev
    replace SZ := (show St C PZ ((ci, oz) :: (L + 1, o2) :: fr) L _ hz' from SZ)
    walk_at "w"
    exact ⟨PZ, ((E10.trans e11).trans ((e12.trans e13).trans (e1327.trans (eA)))).trans ez, SZ.drop.drop.sep, rfl⟩

theorem law_at (p : Params) : nsIn (hd.heap_39 p) mainGlobals "law" = some (some (.ref 391)) := by k_is
theorem callerRm : Rm callerA 20 := ⟨rfl, by decide, by decide⟩
end Mine

set_option maxHeartbeats 0 in
theorem PySem.Challenge.cw_ov0066_01_holds : PySem.Challenge.rw_ov0066_01.Holds := by
  refine holds_law Mine.hSaid fun said => ?_
  refine holds_open (q := Mine.view39) (loose := ["number_text"]) (Xt := Mine.xt) (XP := XL Mine.view39 []) (Yf := Mine.hk.obs) (Ya := Mine.hk.val) (YP := Mine.hk.says) (N := 4254) Mine.hLeft Mine.hk.of Mine.hk.keeps (fun s e => xl_of s (Bool.and_eq_true_iff.mp e).1) XL.keeps (by rfl) (by rfl) (by rfl)
    (fun s e => recFacts_of (Bool.and_eq_true_iff.mp e).2) (by rfl) said Mine.hChains ⟨rfl, rfl, rfl, rfl, rfl, by decide +kernel⟩ ⟨[.list []], by decide +kernel, by decide +kernel⟩ ?_
  intro w s₀ s₁ mg mb G Y fa o pm cd doc dV kV ho hd hcd hD hmg hg args vals as hpre hlay hrd hwl hlo
  have KX := kIn_of Y
  refine Ground.open G ?_
  intro T B D TE TW
  have hfa : mg "law" = some (.ref 391) := mg_of KX T.g (Mine.law_at _)
  have hfe : fa = 391 := by
    have e := hmg.symm.trans hfa
    cases e; rfl
  subst hfe
  wrow_args hpre hlay hrd hwl hlo
  rename_i w2 w1 _ hL _ _ _ hI _ hn _
  have S : Mine.Sep ⟨PySem.Challenge.rw_ov0066_01.row.prog, w, s₁.gens, s₁.drawn, s₁.os⟩ s₁.heap [] s₁.heap :=
    ⟨⟨KX, _, _, mg, mb, topRead_of T⟩, fun _ _ e => e, fun _ h => (by cases h), fun _ h => (by cases h), List.nodup_nil⟩
  have hz : w1.length ≤ 63 := by
    have := hI.length
    omega
  refine (Mine.c_law (n := 8) Mine.callerRm S hL hI hz).use (k := s₁.toks) fun v h' k' ⟨P', e, S', ev⟩ => ?_
  subst ev
  refine GoodW.toG ⟨.inl ⟨_, .bool true, [], rfl, ?_, .bool true, ?_, unshared_nil⟩, fun b o e' => S'.sub _ _ (e _ _ e'), rfl, hg⟩
  · intro cls
    rfl
  · refine postW_of (X := true) ?_ ?_ rfl
    · first | rfl | with_unfolding_all rfl | decide +kernel
    · first | rfl | with_unfolding_all rfl
