import PyProof.Rows.All
import Wide.All
import OpenK.AllK
import Wide.FinOn
import Lean
import PySem.Challenge.RW_pc0200_01
open PySem PySem.W PySem.Calls PyProof.Rows
set_option linter.unusedVariables false
set_option linter.unusedSimpArgs false
set_option maxRecDepth 100000
set_option compiler.extract_closed false
set_option Elab.async false
namespace Mine
local macro_rules | `(tactic| ked_read) => `(tactic| (intros; rfl))
local macro_rules | `(tactic| ked_reads) => `(tactic| nofun)
section SKBase
noncomputable abbrev P0 : Program := PySem.Challenge.pw_pc0200_01
noncomputable def q0 : Program := { P0 with main := { P0.main with body := P0.main.body.drop 27 } }
noncomputable def loose0 : List PySem.Str := ["_wall", "__name__", "RowsError", "LowerFault", "MachineFault", "NOTHING", "SHAPES", "ENDS", "Code", "shape_of", "goals_of", "turned_row", "Scope", "Writer", "_law_keg", "_law_tap", "_law_new", "_law_constant", "_law_called", "_law_deed", "_law_is_open", "_law_code", "_law_written_right", "_law_scopes_right"]
noncomputable def noStmt : Stmt := .Pass default
noncomputable def atTop (i : Nat) : Stmt := P0.main.body.getD i noStmt
noncomputable def clsBody : Stmt → List Stmt
  | .ClassDef _ _ _ b _ _ _ _ _ _ _ => b
  | _ => []
noncomputable def inClass (i j : Nat) : Stmt := (clsBody (atTop i)).getD j noStmt
noncomputable def dAll : Stmt → PySem.Str × Arguments × List Stmt × Scope
  | .FunctionDef n a b _ _ _ s _ _ _ => (n, a, b, s)
  | _ => ("", ⟨[], [], none, [], [], none, []⟩, [], default)
noncomputable def dName (s : Stmt) : PySem.Str := (dAll s).1
noncomputable def dPars (s : Stmt) : Arguments := (dAll s).2.1
noncomputable def dBody (s : Stmt) : List Stmt := (dAll s).2.2.1
noncomputable def dScope (s : Stmt) : Scope := (dAll s).2.2.2
noncomputable def noExpr : Expr := .Constant .none 0 default
/-! parts of the text, read off -/
noncomputable def asgE : Stmt → Expr | .Assign _ e _ => e | _ => noExpr
noncomputable def retE : Stmt → Expr | .Return (some e) _ => e | _ => noExpr
noncomputable def forB : Stmt → List Stmt | .For _ _ b _ _ => b | _ => []
noncomputable def whT : Stmt → Expr | .While t _ _ _ => t | _ => noExpr
noncomputable def whB : Stmt → List Stmt | .While _ b _ _ => b | _ => []
noncomputable def ifT : Stmt → Expr | .If t _ _ _ => t | _ => noExpr
noncomputable def lcAll : Expr → Expr × List Comprehension × Scope | .ListComp e g s _ => (e, g, s) | _ => (noExpr, [], default)
noncomputable def lcE (e : Expr) : Expr := (lcAll e).1
noncomputable def lcG (e : Expr) : Comprehension := (lcAll e).2.1.headD ⟨noExpr, noExpr, [], 0⟩
noncomputable def lcS (e : Expr) : Scope := (lcAll e).2.2
noncomputable def cmpL : Expr → Expr | .Compare e _ _ _ => e | _ => noExpr
noncomputable def binR : Expr → Expr | .BinOp _ _ r _ => r | _ => noExpr
noncomputable def ifxB : Expr → Expr | .IfExp _ b _ _ => b | _ => noExpr
noncomputable def callA : Expr → List Expr | .Call _ a _ _ => a | _ => []
noncomputable def lamAll : Expr → Arguments × Expr × Scope × Pos | .Lambda a b s p => (a, b, s, p) | _ => (⟨[], [], none, [], [], none, []⟩, noExpr, default, default)
noncomputable def fo (st : Stmt) (qual : PySem.Str) (dV pm cd : Value) : Obj := ⟨.type "function", none, .func (fnOf (dName st) qual (dPars st) (dBody st) (dScope st) dV .none .none pm none cd .none), #[]⟩
noncomputable def en (P : Params) (k : PySem.Str) (t : Tok) (v : Value) : DictEntry := ⟨PyData.keyHash P k, .str k t, v⟩
noncomputable def KK (P : Params) : Frag := [
  (3, dictOf [en P "__name__" 165 (.str "law_pc0200_01" 602), en P "__doc__" 166 (.none), en P "__package__" 167 (.none), en P "__loader__" 168 (.builtin "__main__.__loader__#opaque"), en P "__spec__" 169 (.none), en P "__annotations__" 170 (.ref 6), en P "__builtins__" 171 (.ref 4), en P "__file__" 173 (.str "/claim/cut.py" 172), en P "__cached__" 174 (.none), en P "_wall" 193 (.ref 21), en P "RowsError" 226 (.ref 39), en P "LowerFault" 242 (.ref 52), en P "MachineFault" 258 (.ref 64), en P "NOTHING" 260 (.ref 67), en P "SHAPES" 338 (.ref 68), en P "ENDS" 342 (.ref 70), en P "Code" 392 (.ref 98), en P "shape_of" 400 (.ref 109), en P "goals_of" 406 (.ref 114), en P "turned_row" 412 (.ref 119), en P "Scope" 465 (.ref 152), en P "Writer" 601 (.ref 260), en P "_law_keg" 612 (.ref 271), en P "_law_tap" 621 (.ref 278), en P "_law_new" 628 (.ref 285), en P "_law_constant" 637 (.ref 292), en P "_law_called" 648 (.ref 299), en P "_law_deed" 654 (.ref 304), en P "_law_is_open" 661 (.ref 311), en P "_law_code" 668 (.ref 318), en P "_law_written_right" 674 (.ref 323), en P "_law_scopes_right" 680 (.ref 328), en P "law" 688 (.ref 335)] 33),
  (29, ⟨.type "tuple", none, .seq [.none].toArray 0, #[]⟩),
  (35, ⟨.type "code", none, .fields [.str "__init__" 208, .str "RowsError.__init__" 209, .str "/claim/cut.py" 210, .int 7 0, .int 3 0, .int 0 0, .int 0 0, .int 3 0, .ref 30, .bool true, .int 181 0, .ref 31, .none, .ref 32, .ref 33, .ref 34, .int 214 0, .int 7 0, .str "/claim/cut.py" 215].toArray, #[]⟩),
  (36, fo (inClass 2 0) "RowsError.__init__" (.ref 29) (.str "methodrows.errors" 194) (.ref 35)),
  (38, dictOf [en P "__module__" 203 (.str "methodrows.errors" 194), en P "__firstlineno__" 207 (.int 5 206), en P "__init__" 216 (.ref 36), en P "__static_attributes__" 219 (.ref 37), en P "__weakref__" 221 (.ref 40), en P "__doc__" 222 (.none)] 3),
  (39, ⟨.type "type", none, .cls { name := "RowsError", bases := [.type "Exception"], mro := [.ref 39, .type "Exception", .type "BaseException", .type "object"], ns := 38, qualname := "RowsError", hasDict := true, slotNames := [], subclasses := [.ref 52, .ref 64], abstract := false, collection := none, hasDel := false }, #[some (.ref 22), none, some (.str "RowsError" 196), some (.str "RowsError" 204), some (.builtin "Exception.__new__"), some (.bool true)]⟩),
  (51, dictOf [en P "__module__" 234 (.str "methodrows.errors" 194), en P "__firstlineno__" 238 (.int 11 237), en P "__static_attributes__" 239 (.ref 50), en P "__doc__" 240 (.none)] 2),
  (52, ⟨.type "type", none, .cls { name := "LowerFault", bases := [.ref 39], mro := [.ref 52, .ref 39, .type "Exception", .type "BaseException", .type "object"], ns := 51, qualname := "LowerFault", hasDict := true, slotNames := [], subclasses := [], abstract := false, collection := none, hasDel := false }, #[some (.ref 43), none, some (.str "LowerFault" 227), some (.str "LowerFault" 235), some (.builtin "Exception.__new__"), some (.bool true)]⟩),
  (67, ⟨.type "tuple", none, .seq [.str "nothing" 259].toArray 0, #[]⟩),
  (68, dictOf [en P "const" 263 (.str "dx" 264), en P "move" 266 (.str "ds" 267), en P "global" 269 (.str "dx" 270), en P "setglobal" 272 (.str "xs" 273), en P "static" 275 (.str "dx" 276), en P "capture" 278 (.str "dx" 279), en P "call" 281 (.str "dsm" 282), en P "splat" 284 (.str "dsmx" 285), en P "kwcall" 287 (.str "dsxmm" 288), en P "closure" 290 (.str "dxm" 291), en P "box" 293 (.str "d" 294), en P "unbox" 296 (.str "dsx" 297), en P "setbox" 299 (.str "ss" 300), en P "clear" 302 (.str "d" 303), en P "goto" 305 (.str "g" 306), en P "unless" 308 (.str "sg" 309), en P "return" 311 (.str "s" 312), en P "enter" 314 (.str "g" 315), en P "leave" 316 (.str "x" 317), en P "caught" 318 (.str "d" 319), en P "rethrow" 320 (.str "" 321), en P "defined" 322 (.str "sx" 323), en P "method" 324 (.str "xsx" 325), en P "invoke" 326 (.str "dxm" 327), en P "guard" 328 (.str "xg" 329)] 25),
  (70, ⟨.type "tuple", none, .seq [.str "goto" 339, .str "return" 340, .str "rethrow" 341].toArray 0, #[]⟩),
  (81, ⟨.type "tuple", none, .seq [.ref 78, .ref 79, .ref 80].toArray 0, #[]⟩),
  (87, ⟨.type "code", none, .fields [.str "__init__" 355, .str "Code.__init__" 356, .str "/claim/cut.py" 357, .int 21 0, .int 8 0, .int 0 0, .int 0 0, .int 3 0, .ref 82, .bool true, .int 181 0, .ref 83, .none, .ref 84, .ref 85, .ref 86, .int 366 0, .int 21 0, .str "/claim/cut.py" 367].toArray, #[]⟩),
  (88, fo (inClass 9 0) "Code.__init__" (.ref 81) (.str "methodrows.ir" 261) (.ref 87)),
  (97, dictOf [en P "__module__" 350 (.str "methodrows.ir" 261), en P "__firstlineno__" 354 (.int 19 353), en P "__init__" 368 (.ref 88), en P "with_rows" 377 (.ref 95), en P "__static_attributes__" 385 (.ref 96), en P "__dict__" 387 (.ref 99), en P "__weakref__" 389 (.ref 100), en P "__doc__" 390 (.none)] 4),
  (98, ⟨.type "type", none, .cls { name := "Code", bases := [.type "object"], mro := [.ref 98, .type "object"], ns := 97, qualname := "Code", hasDict := true, slotNames := [], subclasses := [], abstract := false, collection := none, hasDel := false }, #[none, none, some (.str "Code" 343), some (.str "Code" 351), some (.builtin "object.__new__"), some (.bool true)]⟩),
  (108, ⟨.type "code", none, .fields [.str "shape_of" 393, .str "shape_of" 394, .str "/claim/cut.py" 395, .int 32 0, .int 1 0, .int 0 0, .int 0 0, .int 3 0, .ref 103, .bool true, .int 181 0, .ref 104, .none, .ref 105, .ref 106, .ref 107, .int 398 0, .int 32 0, .str "/claim/cut.py" 399].toArray, #[]⟩),
  (109, fo (atTop 10) "shape_of" (.none) (.str "methodrows.ir" 261) (.ref 108)),
  (113, ⟨.type "code", none, .fields [.str "goals_of" 401, .str "goals_of" 402, .str "/claim/cut.py" 403, .int 37 0, .int 1 0, .int 0 0, .int 0 0, .int 3 0, .ref 110, .bool true, .int 181 0, .ref 111, .none, .none, .none, .ref 112, .int 404 0, .int 37 0, .str "/claim/cut.py" 405].toArray, #[]⟩),
  (114, fo (atTop 11) "goals_of" (.none) (.str "methodrows.ir" 261) (.ref 113)),
  (118, ⟨.type "code", none, .fields [.str "turned_row" 407, .str "turned_row" 408, .str "/claim/cut.py" 409, .int 39 0, .int 3 0, .int 0 0, .int 0 0, .int 3 0, .ref 115, .bool true, .int 181 0, .ref 116, .none, .none, .none, .ref 117, .int 410 0, .int 39 0, .str "/claim/cut.py" 411].toArray, #[]⟩),
  (119, fo (atTop 12) "turned_row" (.none) (.str "methodrows.ir" 261) (.ref 118)),
  (128, ⟨.type "tuple", none, .seq [.ref 127].toArray 0, #[]⟩),
  (134, ⟨.type "code", none, .fields [.str "__init__" 427, .str "Scope.__init__" 428, .str "/claim/cut.py" 429, .int 52 0, .int 4 0, .int 0 0, .int 0 0, .int 3 0, .ref 129, .bool true, .int 181 0, .ref 130, .none, .ref 131, .ref 132, .ref 133, .int 434 0, .int 52 0, .str "/claim/cut.py" 435].toArray, #[]⟩),
  (135, fo (inClass 14 0) "Scope.__init__" (.ref 128) (.str "methodrows.lower_context" 413) (.ref 134)),
  (141, ⟨.type "code", none, .fields [.str "find" 437, .str "Scope.find" 438, .str "/claim/cut.py" 439, .int 57 0, .int 2 0, .int 0 0, .int 0 0, .int 3 0, .ref 136, .bool true, .int 181 0, .ref 137, .none, .ref 138, .ref 139, .ref 140, .int 443 0, .int 57 0, .str "/claim/cut.py" 444].toArray, #[]⟩),
  (142, fo (inClass 14 1) "Scope.find" (.none) (.str "methodrows.lower_context" 413) (.ref 141)),
  (148, ⟨.type "code", none, .fields [.str "is_known" 446, .str "Scope.is_known" 447, .str "/claim/cut.py" 448, .int 67 0, .int 2 0, .int 0 0, .int 0 0, .int 3 0, .ref 143, .bool true, .int 181 0, .ref 144, .none, .ref 145, .ref 146, .ref 147, .int 452 0, .int 67 0, .str "/claim/cut.py" 453].toArray, #[]⟩),
  (149, fo (inClass 14 2) "Scope.is_known" (.none) (.str "methodrows.lower_context" 413) (.ref 148)),
  (151, dictOf [en P "__module__" 422 (.str "methodrows.lower_context" 413), en P "__firstlineno__" 426 (.int 50 425), en P "__init__" 436 (.ref 135), en P "find" 445 (.ref 142), en P "is_known" 454 (.ref 149), en P "__static_attributes__" 458 (.ref 150), en P "__dict__" 460 (.ref 153), en P "__weakref__" 462 (.ref 154), en P "__doc__" 463 (.none)] 4),
  (152, ⟨.type "type", none, .cls { name := "Scope", bases := [.type "object"], mro := [.ref 152, .type "object"], ns := 151, qualname := "Scope", hasDict := true, slotNames := [], subclasses := [], abstract := false, collection := none, hasDel := false }, #[none, none, some (.str "Scope" 415), some (.str "Scope" 423), some (.builtin "object.__new__"), some (.bool true)]⟩),
  (166, ⟨.type "tuple", none, .seq [.ref 164, .ref 165].toArray 0, #[]⟩),
  (172, ⟨.type "code", none, .fields [.str "__init__" 478, .str "Writer.__init__" 479, .str "/claim/cut.py" 480, .int 76 0, .int 5 0, .int 0 0, .int 0 0, .int 3 0, .ref 167, .bool true, .int 181 0, .ref 168, .none, .ref 169, .ref 170, .ref 171, .int 486 0, .int 76 0, .str "/claim/cut.py" 487].toArray, #[]⟩),
  (173, fo (inClass 15 0) "Writer.__init__" (.ref 166) (.str "methodrows.lower_context" 413) (.ref 172)),
  (179, ⟨.type "code", none, .fields [.str "fresh" 489, .str "Writer.fresh" 490, .str "/claim/cut.py" 491, .int 86 0, .int 1 0, .int 0 0, .int 0 0, .int 3 0, .ref 174, .bool true, .int 181 0, .ref 175, .none, .ref 176, .ref 177, .ref 178, .int 493 0, .int 86 0, .str "/claim/cut.py" 494].toArray, #[]⟩),
  (180, fo (inClass 15 1) "Writer.fresh" (.none) (.str "methodrows.lower_context" 413) (.ref 179)),
  (186, ⟨.type "code", none, .fields [.str "label" 496, .str "Writer.label" 497, .str "/claim/cut.py" 498, .int 90 0, .int 1 0, .int 0 0, .int 0 0, .int 3 0, .ref 181, .bool true, .int 181 0, .ref 182, .none, .ref 183, .ref 184, .ref 185, .int 500 0, .int 90 0, .str "/claim/cut.py" 501].toArray, #[]⟩),
  (187, fo (inClass 15 2) "Writer.label" (.none) (.str "methodrows.lower_context" 413) (.ref 186)),
  (193, ⟨.type "code", none, .fields [.str "mark" 503, .str "Writer.mark" 504, .str "/claim/cut.py" 505, .int 94 0, .int 2 0, .int 0 0, .int 0 0, .int 3 0, .ref 188, .bool true, .int 181 0, .ref 189, .none, .ref 190, .ref 191, .ref 192, .int 508 0, .int 94 0, .str "/claim/cut.py" 509].toArray, #[]⟩),
  (194, fo (inClass 15 3) "Writer.mark" (.none) (.str "methodrows.lower_context" 413) (.ref 193)),
  (200, ⟨.type "code", none, .fields [.str "emit" 511, .str "Writer.emit" 512, .str "/claim/cut.py" 513, .int 97 0, .int 2 0, .int 0 0, .int 0 0, .int 3 0, .ref 195, .bool true, .int 181 0, .ref 196, .none, .ref 197, .ref 198, .ref 199, .int 516 0, .int 97 0, .str "/claim/cut.py" 517].toArray, #[]⟩),
  (201, fo (inClass 15 4) "Writer.emit" (.none) (.str "methodrows.lower_context" 413) (.ref 200)),
  (207, ⟨.type "code", none, .fields [.str "constant" 519, .str "Writer.constant" 520, .str "/claim/cut.py" 521, .int 100 0, .int 2 0, .int 0 0, .int 0 0, .int 3 0, .ref 202, .bool true, .int 181 0, .ref 203, .none, .ref 204, .ref 205, .ref 206, .int 525 0, .int 100 0, .str "/claim/cut.py" 526].toArray, #[]⟩),
  (208, fo (inClass 15 5) "Writer.constant" (.none) (.str "methodrows.lower_context" 413) (.ref 207)),
  (214, ⟨.type "code", none, .fields [.str "call" 528, .str "Writer.call" 529, .str "/claim/cut.py" 530, .int 105 0, .int 3 0, .int 0 0, .int 0 0, .int 3 0, .ref 209, .bool true, .int 181 0, .ref 210, .none, .ref 211, .ref 212, .ref 213, .int 535 0, .int 105 0, .str "/claim/cut.py" 536].toArray, #[]⟩),
  (215, fo (inClass 15 6) "Writer.call" (.none) (.str "methodrows.lower_context" 413) (.ref 214)),
  (221, ⟨.type "code", none, .fields [.str "builtin" 538, .str "Writer.builtin" 539, .str "/claim/cut.py" 540, .int 110 0, .int 3 0, .int 0 0, .int 0 0, .int 3 0, .ref 216, .bool true, .int 181 0, .ref 217, .none, .ref 218, .ref 219, .ref 220, .int 544 0, .int 110 0, .str "/claim/cut.py" 545].toArray, #[]⟩),
  (222, fo (inClass 15 7) "Writer.builtin" (.none) (.str "methodrows.lower_context" 413) (.ref 221)),
  (228, ⟨.type "code", none, .fields [.str "base" 547, .str "Writer.base" 548, .str "/claim/cut.py" 549, .int 113 0, .int 3 0, .int 0 0, .int 0 0, .int 3 0, .ref 223, .bool true, .int 181 0, .ref 224, .none, .ref 225, .ref 226, .ref 227, .int 553 0, .int 113 0, .str "/claim/cut.py" 554].toArray, #[]⟩),
  (229, fo (inClass 15 8) "Writer.base" (.none) (.str "methodrows.lower_context" 413) (.ref 228)),
  (235, ⟨.type "code", none, .fields [.str "copied" 556, .str "Writer.copied" 557, .str "/claim/cut.py" 558, .int 116 0, .int 2 0, .int 0 0, .int 0 0, .int 3 0, .ref 230, .bool true, .int 181 0, .ref 231, .none, .ref 232, .ref 233, .ref 234, .int 562 0, .int 116 0, .str "/claim/cut.py" 563].toArray, #[]⟩),
  (236, fo (inClass 15 9) "Writer.copied" (.none) (.str "methodrows.lower_context" 413) (.ref 235)),
  (242, ⟨.type "code", none, .fields [.str "is_open" 565, .str "Writer.is_open" 566, .str "/claim/cut.py" 567, .int 121 0, .int 1 0, .int 0 0, .int 0 0, .int 3 0, .ref 237, .bool true, .int 181 0, .ref 238, .none, .ref 239, .ref 240, .ref 241, .int 569 0, .int 121 0, .str "/claim/cut.py" 570].toArray, #[]⟩),
  (243, fo (inClass 15 10) "Writer.is_open" (.none) (.str "methodrows.lower_context" 413) (.ref 242)),
  (249, ⟨.type "code", none, .fields [.str "goal" 572, .str "Writer.goal" 573, .str "/claim/cut.py" 574, .int 126 0, .int 2 0, .int 0 0, .int 0 0, .int 3 0, .ref 244, .bool true, .int 181 0, .ref 245, .none, .ref 246, .ref 247, .ref 248, .int 577 0, .int 126 0, .str "/claim/cut.py" 578].toArray, #[]⟩),
  (250, fo (inClass 15 11) "Writer.goal" (.none) (.str "methodrows.lower_context" 413) (.ref 249)),
  (252, ⟨.type "tuple", none, .seq [.ref 251].toArray 0, #[]⟩),
  (256, ⟨.type "code", none, .fields [.str "code" 580, .str "Writer.code" 581, .str "/claim/cut.py" 582, .int 131 0, .int 2 0, .int 0 0, .int 0 0, .int 3 0, .ref 253, .bool true, .int 181 0, .ref 254, .none, .none, .none, .ref 255, .int 583 0, .int 131 0, .str "/claim/cut.py" 584].toArray, #[]⟩),
  (257, fo (inClass 15 12) "Writer.code" (.ref 252) (.str "methodrows.lower_context" 413) (.ref 256)),
  (259, dictOf [en P "__module__" 473 (.str "methodrows.lower_context" 413), en P "__firstlineno__" 477 (.int 74 476), en P "__init__" 488 (.ref 173), en P "fresh" 495 (.ref 180), en P "label" 502 (.ref 187), en P "mark" 510 (.ref 194), en P "emit" 518 (.ref 201), en P "constant" 527 (.ref 208), en P "call" 537 (.ref 215), en P "builtin" 546 (.ref 222), en P "base" 555 (.ref 229), en P "copied" 564 (.ref 236), en P "is_open" 571 (.ref 243), en P "goal" 579 (.ref 250), en P "code" 585 (.ref 257), en P "__static_attributes__" 594 (.ref 258), en P "__dict__" 596 (.ref 261), en P "__weakref__" 598 (.ref 262), en P "__doc__" 599 (.none)] 4),
  (260, ⟨.type "type", none, .cls { name := "Writer", bases := [.type "object"], mro := [.ref 260, .type "object"], ns := 259, qualname := "Writer", hasDict := true, slotNames := [], subclasses := [], abstract := false, collection := none, hasDel := false }, #[none, none, some (.str "Writer" 466), some (.str "Writer" 474), some (.builtin "object.__new__"), some (.bool true)]⟩),
  (270, ⟨.type "code", none, .fields [.str "_law_keg" 604, .str "_law_keg" 605, .str "/claim/cut.py" 606, .int 137 0, .int 1 0, .int 0 0, .int 0 0, .int 3 0, .ref 265, .bool true, .int 181 0, .ref 266, .none, .ref 267, .ref 268, .ref 269, .int 610 0, .int 137 0, .str "/claim/cut.py" 611].toArray, #[]⟩),
  (271, fo (atTop 17) "_law_keg" (.none) (.str "law_pc0200_01" 602) (.ref 270)),
  (277, ⟨.type "code", none, .fields [.str "_law_tap" 613, .str "_law_tap" 614, .str "/claim/cut.py" 615, .int 141 0, .int 2 0, .int 0 0, .int 0 0, .int 3 0, .ref 272, .bool true, .int 181 0, .ref 273, .none, .ref 274, .ref 275, .ref 276, .int 619 0, .int 141 0, .str "/claim/cut.py" 620].toArray, #[]⟩),
  (278, fo (atTop 18) "_law_tap" (.none) (.str "law_pc0200_01" 602) (.ref 277)),
  (284, ⟨.type "code", none, .fields [.str "_law_new" 622, .str "_law_new" 623, .str "/claim/cut.py" 624, .int 148 0, .int 1 0, .int 0 0, .int 0 0, .int 3 0, .ref 279, .bool true, .int 181 0, .ref 280, .none, .ref 281, .ref 282, .ref 283, .int 626 0, .int 148 0, .str "/claim/cut.py" 627].toArray, #[]⟩),
  (285, fo (atTop 19) "_law_new" (.none) (.str "law_pc0200_01" 602) (.ref 284)),
  (291, ⟨.type "code", none, .fields [.str "_law_constant" 629, .str "_law_constant" 630, .str "/claim/cut.py" 631, .int 151 0, .int 2 0, .int 0 0, .int 0 0, .int 3 0, .ref 286, .bool true, .int 181 0, .ref 287, .none, .ref 288, .ref 289, .ref 290, .int 635 0, .int 151 0, .str "/claim/cut.py" 636].toArray, #[]⟩),
  (292, fo (atTop 20) "_law_constant" (.none) (.str "law_pc0200_01" 602) (.ref 291)),
  (298, ⟨.type "code", none, .fields [.str "_law_called" 638, .str "_law_called" 639, .str "/claim/cut.py" 640, .int 155 0, .int 3 0, .int 0 0, .int 0 0, .int 3 0, .ref 293, .bool true, .int 181 0, .ref 294, .none, .ref 295, .ref 296, .ref 297, .int 646 0, .int 155 0, .str "/claim/cut.py" 647].toArray, #[]⟩),
  (299, fo (atTop 21) "_law_called" (.none) (.str "law_pc0200_01" 602) (.ref 298)),
  (303, ⟨.type "code", none, .fields [.str "_law_deed" 649, .str "_law_deed" 650, .str "/claim/cut.py" 651, .int 160 0, .int 3 0, .int 0 0, .int 0 0, .int 3 0, .ref 300, .bool true, .int 181 0, .ref 301, .none, .none, .none, .ref 302, .int 652 0, .int 160 0, .str "/claim/cut.py" 653].toArray, #[]⟩),
  (304, fo (atTop 22) "_law_deed" (.none) (.str "law_pc0200_01" 602) (.ref 303)),
  (310, ⟨.type "code", none, .fields [.str "_law_is_open" 655, .str "_law_is_open" 656, .str "/claim/cut.py" 657, .int 190 0, .int 1 0, .int 0 0, .int 0 0, .int 3 0, .ref 305, .bool true, .int 181 0, .ref 306, .none, .ref 307, .ref 308, .ref 309, .int 659 0, .int 190 0, .str "/claim/cut.py" 660].toArray, #[]⟩),
  (311, fo (atTop 23) "_law_is_open" (.none) (.str "law_pc0200_01" 602) (.ref 310)),
  (317, ⟨.type "code", none, .fields [.str "_law_code" 662, .str "_law_code" 663, .str "/claim/cut.py" 664, .int 194 0, .int 1 0, .int 0 0, .int 0 0, .int 3 0, .ref 312, .bool true, .int 181 0, .ref 313, .none, .ref 314, .ref 315, .ref 316, .int 666 0, .int 194 0, .str "/claim/cut.py" 667].toArray, #[]⟩),
  (318, fo (atTop 24) "_law_code" (.none) (.str "law_pc0200_01" 602) (.ref 317)),
  (322, ⟨.type "code", none, .fields [.str "_law_written_right" 669, .str "_law_written_right" 670, .str "/claim/cut.py" 671, .int 199 0, .int 1 0, .int 0 0, .int 0 0, .int 3 0, .ref 319, .bool true, .int 181 0, .ref 320, .none, .none, .none, .ref 321, .int 672 0, .int 199 0, .str "/claim/cut.py" 673].toArray, #[]⟩),
  (323, fo (atTop 25) "_law_written_right" (.none) (.str "law_pc0200_01" 602) (.ref 322)),
  (327, ⟨.type "code", none, .fields [.str "_law_scopes_right" 675, .str "_law_scopes_right" 676, .str "/claim/cut.py" 677, .int 217 0, .int 1 0, .int 0 0, .int 0 0, .int 3 0, .ref 324, .bool true, .int 181 0, .ref 325, .none, .none, .none, .ref 326, .int 678 0, .int 217 0, .str "/claim/cut.py" 679].toArray, #[]⟩),
  (328, fo (atTop 26) "_law_scopes_right" (.none) (.str "law_pc0200_01" 602) (.ref 327)),
  (334, ⟨.type "code", none, .fields [.str "law" 681, .str "law" 682, .str "/claim/cut.py" 683, .int 233 0, .int 1 0, .int 0 0, .int 0 0, .int 3 0, .ref 329, .bool true, .int 181 0, .ref 330, .none, .ref 331, .ref 332, .ref 333, .int 686 0, .int 233 0, .str "/claim/cut.py" 687].toArray, #[]⟩),
  (335, fo (atTop 27) "law" (.none) (.str "law_pc0200_01" 602) (.ref 334))]
noncomputable def KA : List Addr := [3, 29, 35, 36, 38, 39, 51, 52, 67, 68, 70, 81, 87, 88, 97, 98, 108, 109, 113, 114, 118, 119, 128, 134, 135, 141, 142, 148, 149, 151, 152, 166, 172, 173, 179, 180, 186, 187, 193, 194, 200, 201, 207, 208, 214, 215, 221, 222, 228, 229, 235, 236, 242, 243, 249, 250, 252, 256, 257, 259, 260, 270, 271, 277, 278, 284, 285, 291, 292, 298, 299, 303, 304, 310, 311, 317, 318, 322, 323, 327, 328, 334, 335]
theorem KA_is (P : Params) : KA = (KK P).map (·.1) := by kernel_rfl!
noncomputable def HK : Hook := kmHook KK KA KA_is [254]
end SKBase
section SH0
noncomputable def foc (st : Stmt) (qual : PySem.Str) : Obj := ⟨.none, none, .func { fnOf (dName st) qual (dPars st) (dBody st) (dScope st) .none .none .none .none none .none .none with globals := 0 }, #[]⟩
noncomputable def ch11 (P : Params) : List Obj := [⟨.type "tuple", none, .seq [].toArray 0, #[]⟩]
noncomputable def ch13 (P : Params) : List Obj := [⟨.type "code", none, .fields [.str "<module>" 182, .str "<module>" 183, .str "/claim/cut.py" 184, .int 1 0, .int 0 0, .int 0 0, .int 0 0, .int 0 0, .ref 11, .bool false, .int 181 0, .ref 12, .none, .none, .none, .none, .int 185 0, .int 1 0, .str "/claim/cut.py" 186].toArray, #[]⟩,
  ⟨.type "frame", none, .plain, #[some (.ref 13), some (.ref 3), some (.ref 3), none, some (.str "__main__" 164), none, some (.ref 0)]⟩]
noncomputable def ch15 (P : Params) : List Obj := [⟨.type "tuple", none, .seq [].toArray 0, #[]⟩,
  ⟨.none, none, .fields [].toArray, #[]⟩,
  ⟨.type "tuple", none, .seq [.str "k" 190].toArray 0, #[]⟩,
  ⟨.type "tuple", none, .seq [].toArray 0, #[]⟩,
  foc (atTop 0) "_wall",
  ⟨.type "code", none, .fields [.str "_wall" 187, .str "_wall" 188, .str "/claim/cut.py" 189, .int 1 0, .int 1 0, .int 0 0, .int 0 0, .int 3 0, .ref 15, .bool true, .int 181 0, .ref 16, .none, .ref 17, .ref 18, .ref 19, .int 191 0, .int 1 0, .str "/claim/cut.py" 192].toArray, #[]⟩,
  fo (atTop 0) "_wall" (.none) (.str "__main__" 164) (.ref 20),
  ⟨.type "tuple", none, .seq [.type "Exception"].toArray 0, #[]⟩,
  ⟨.type "builtin_function_or_method", none, .fields [.builtin "type.__prepare__", .type "type"].toArray, #[]⟩,
  dictOf [en P "__module__" 203 (.str "methodrows.errors" 194), en P "__qualname__" 205 (.str "RowsError" 204), en P "__firstlineno__" 207 (.int 5 206), en P "__init__" 216 (.ref 36), en P "__static_attributes__" 219 (.ref 37)] 5,
  ⟨.type "tuple", none, .seq [].toArray 0, #[]⟩,
  ⟨.none, none, .fields [.int 7 0, .int 4 0, .ref 35].toArray, #[]⟩,
  ⟨.type "code", none, .fields [.str "RowsError" 198, .str "RowsError" 199, .str "/claim/cut.py" 200, .int 5 0, .int 0 0, .int 0 0, .int 0 0, .int 0 0, .ref 25, .bool false, .int 181 0, .ref 26, .none, .none, .none, .none, .int 201 0, .int 5 0, .str "/claim/cut.py" 202].toArray, #[]⟩,
  ⟨.type "frame", none, .plain, #[some (.ref 27), some (.ref 3), some (.ref 24), none, some (.str "methodrows.errors" 194), none, some (.ref 0)]⟩,
  ⟨.type "tuple", none, .seq [.none].toArray 0, #[]⟩,
  ⟨.type "tuple", none, .seq [].toArray 0, #[]⟩,
  ⟨.none, none, .fields [].toArray, #[]⟩,
  ⟨.type "tuple", none, .seq [.str "self" 211, .str "message" 212, .str "spot" 213].toArray 0, #[]⟩,
  ⟨.type "tuple", none, .seq [].toArray 0, #[]⟩,
  foc (inClass 2 0) "RowsError.__init__",
  ⟨.type "code", none, .fields [.str "__init__" 208, .str "RowsError.__init__" 209, .str "/claim/cut.py" 210, .int 7 0, .int 3 0, .int 0 0, .int 0 0, .int 3 0, .ref 30, .bool true, .int 181 0, .ref 31, .none, .ref 32, .ref 33, .ref 34, .int 214 0, .int 7 0, .str "/claim/cut.py" 215].toArray, #[]⟩,
  fo (inClass 2 0) "RowsError.__init__" (.ref 29) (.str "methodrows.errors" 194) (.ref 35),
  ⟨.type "tuple", none, .seq [.str "message" 217, .str "spot" 218].toArray 0, #[]⟩,
  dictOf [en P "__module__" 203 (.str "methodrows.errors" 194), en P "__firstlineno__" 207 (.int 5 206), en P "__init__" 216 (.ref 36), en P "__static_attributes__" 219 (.ref 37), en P "__weakref__" 221 (.ref 40), en P "__doc__" 222 (.none)] 3,
  ⟨.type "type", none, .cls { name := "RowsError", bases := [.type "Exception"], mro := [.ref 39, .type "Exception", .type "BaseException", .type "object"], ns := 38, qualname := "RowsError", hasDict := true, slotNames := [], subclasses := [.ref 52, .ref 64], abstract := false, collection := none, hasDel := false }, #[some (.ref 22), none, some (.str "RowsError" 196), some (.str "RowsError" 204), some (.builtin "Exception.__new__"), some (.bool true)]⟩,
  ⟨.type "getset_descriptor", none, .fields [.str "__weakref__" 220, .ref 39, .builtin "ExceptionGroup.__weakref__", .none].toArray, #[]⟩,
  ⟨.type "super", none, .fields [.ref 39, .ref 39, .ref 39].toArray, #[]⟩,
  ⟨.type "builtin_function_or_method", none, .fields [.builtin "object.__init_subclass__", .ref 39].toArray, #[]⟩,
  ⟨.type "tuple", none, .seq [.ref 39].toArray 0, #[]⟩,
  ⟨.type "builtin_function_or_method", none, .fields [.builtin "type.__prepare__", .type "type"].toArray, #[]⟩,
  dictOf [en P "__module__" 234 (.str "methodrows.errors" 194), en P "__qualname__" 236 (.str "LowerFault" 235), en P "__firstlineno__" 238 (.int 11 237), en P "__static_attributes__" 239 (.ref 50)] 4,
  ⟨.type "tuple", none, .seq [].toArray 0, #[]⟩,
  ⟨.none, none, .fields [].toArray, #[]⟩,
  ⟨.type "code", none, .fields [.str "LowerFault" 229, .str "LowerFault" 230, .str "/claim/cut.py" 231, .int 11 0, .int 0 0, .int 0 0, .int 0 0, .int 0 0, .ref 46, .bool false, .int 181 0, .ref 47, .none, .none, .none, .none, .int 232 0, .int 11 0, .str "/claim/cut.py" 233].toArray, #[]⟩,
  ⟨.type "frame", none, .plain, #[some (.ref 48), some (.ref 3), some (.ref 45), none, some (.str "methodrows.errors" 194), none, some (.ref 0)]⟩,
  ⟨.type "tuple", none, .seq [].toArray 0, #[]⟩,
  dictOf [en P "__module__" 234 (.str "methodrows.errors" 194), en P "__firstlineno__" 238 (.int 11 237), en P "__static_attributes__" 239 (.ref 50), en P "__doc__" 240 (.none)] 2,
  ⟨.type "type", none, .cls { name := "LowerFault", bases := [.ref 39], mro := [.ref 52, .ref 39, .type "Exception", .type "BaseException", .type "object"], ns := 51, qualname := "LowerFault", hasDict := true, slotNames := [], subclasses := [], abstract := false, collection := none, hasDel := false }, #[some (.ref 43), none, some (.str "LowerFault" 227), some (.str "LowerFault" 235), some (.builtin "Exception.__new__"), some (.bool true)]⟩,
  ⟨.type "super", none, .fields [.ref 52, .ref 52, .ref 52].toArray, #[]⟩,
  ⟨.type "builtin_function_or_method", none, .fields [.builtin "object.__init_subclass__", .ref 52].toArray, #[]⟩,
  ⟨.type "tuple", none, .seq [.ref 39].toArray 0, #[]⟩,
  ⟨.type "builtin_function_or_method", none, .fields [.builtin "type.__prepare__", .type "type"].toArray, #[]⟩,
  dictOf [en P "__module__" 250 (.str "methodrows.errors" 194), en P "__qualname__" 252 (.str "MachineFault" 251), en P "__firstlineno__" 254 (.int 13 253), en P "__static_attributes__" 255 (.ref 62)] 4,
  ⟨.type "tuple", none, .seq [].toArray 0, #[]⟩,
  ⟨.none, none, .fields [].toArray, #[]⟩,
  ⟨.type "code", none, .fields [.str "MachineFault" 245, .str "MachineFault" 246, .str "/claim/cut.py" 247, .int 13 0, .int 0 0, .int 0 0, .int 0 0, .int 0 0, .ref 58, .bool false, .int 181 0, .ref 59, .none, .none, .none, .none, .int 248 0, .int 13 0, .str "/claim/cut.py" 249].toArray, #[]⟩,
  ⟨.type "frame", none, .plain, #[some (.ref 60), some (.ref 3), some (.ref 57), none, some (.str "methodrows.errors" 194), none, some (.ref 0)]⟩,
  ⟨.type "tuple", none, .seq [].toArray 0, #[]⟩,
  dictOf [en P "__module__" 250 (.str "methodrows.errors" 194), en P "__firstlineno__" 254 (.int 13 253), en P "__static_attributes__" 255 (.ref 62), en P "__doc__" 256 (.none)] 2,
  ⟨.type "type", none, .cls { name := "MachineFault", bases := [.ref 39], mro := [.ref 64, .ref 39, .type "Exception", .type "BaseException", .type "object"], ns := 63, qualname := "MachineFault", hasDict := true, slotNames := [], subclasses := [], abstract := false, collection := none, hasDel := false }, #[some (.ref 55), none, some (.str "MachineFault" 243), some (.str "MachineFault" 251), some (.builtin "Exception.__new__"), some (.bool true)]⟩,
  ⟨.type "super", none, .fields [.ref 64, .ref 64, .ref 64].toArray, #[]⟩,
  ⟨.type "builtin_function_or_method", none, .fields [.builtin "object.__init_subclass__", .ref 64].toArray, #[]⟩,
  ⟨.type "tuple", none, .seq [.str "nothing" 259].toArray 0, #[]⟩]
noncomputable def ch68 (P : Params) : List Obj := [dictOf [en P "const" 263 (.str "dx" 264), en P "move" 266 (.str "ds" 267), en P "global" 269 (.str "dx" 270), en P "setglobal" 272 (.str "xs" 273), en P "static" 275 (.str "dx" 276), en P "capture" 278 (.str "dx" 279), en P "call" 281 (.str "dsm" 282), en P "splat" 284 (.str "dsmx" 285), en P "kwcall" 287 (.str "dsxmm" 288), en P "closure" 290 (.str "dxm" 291), en P "box" 293 (.str "d" 294), en P "unbox" 296 (.str "dsx" 297), en P "setbox" 299 (.str "ss" 300), en P "clear" 302 (.str "d" 303), en P "goto" 305 (.str "g" 306), en P "unless" 308 (.str "sg" 309), en P "return" 311 (.str "s" 312), en P "enter" 314 (.str "g" 315), en P "leave" 316 (.str "x" 317), en P "caught" 318 (.str "d" 319), en P "rethrow" 320 (.str "" 321), en P "defined" 322 (.str "sx" 323), en P "method" 324 (.str "xsx" 325), en P "invoke" 326 (.str "dxm" 327), en P "guard" 328 (.str "xg" 329)] 25,
  dictOf [en P "enter" 314 (.str "g" 315), en P "leave" 316 (.str "x" 317), en P "caught" 318 (.str "d" 319), en P "rethrow" 320 (.str "" 321), en P "defined" 322 (.str "sx" 323), en P "method" 324 (.str "xsx" 325), en P "invoke" 326 (.str "dxm" 327), en P "guard" 328 (.str "xg" 329)] 8]
noncomputable def ch70 (P : Params) : List Obj := [⟨.type "tuple", none, .seq [.str "goto" 339, .str "return" 340, .str "rethrow" 341].toArray 0, #[]⟩,
  ⟨.type "tuple", none, .seq [].toArray 0, #[]⟩,
  ⟨.type "builtin_function_or_method", none, .fields [.builtin "type.__prepare__", .type "type"].toArray, #[]⟩,
  dictOf [en P "__module__" 350 (.str "methodrows.ir" 261), en P "__qualname__" 352 (.str "Code" 351), en P "__firstlineno__" 354 (.int 19 353), en P "__init__" 368 (.ref 88), en P "with_rows" 377 (.ref 95), en P "__static_attributes__" 385 (.ref 96)] 6,
  ⟨.type "tuple", none, .seq [].toArray 0, #[]⟩,
  ⟨.none, none, .fields [.int 21 0, .int 4 0, .ref 87, .int 30 0, .int 4 0, .ref 94].toArray, #[]⟩,
  ⟨.type "code", none, .fields [.str "Code" 345, .str "Code" 346, .str "/claim/cut.py" 347, .int 19 0, .int 0 0, .int 0 0, .int 0 0, .int 0 0, .ref 74, .bool false, .int 181 0, .ref 75, .none, .none, .none, .none, .int 348 0, .int 19 0, .str "/claim/cut.py" 349].toArray, #[]⟩,
  ⟨.type "frame", none, .plain, #[some (.ref 76), some (.ref 3), some (.ref 73), none, some (.str "methodrows.ir" 261), none, some (.ref 0)]⟩,
  ⟨.type "tuple", none, .seq [].toArray 0, #[]⟩,
  ⟨.type "tuple", none, .seq [].toArray 0, #[]⟩,
  ⟨.type "tuple", none, .seq [].toArray 0, #[]⟩,
  ⟨.type "tuple", none, .seq [.ref 78, .ref 79, .ref 80].toArray 0, #[]⟩,
  ⟨.type "tuple", none, .seq [].toArray 0, #[]⟩,
  ⟨.none, none, .fields [].toArray, #[]⟩,
  ⟨.type "tuple", none, .seq [.str "self" 358, .str "name" 359, .str "arity" 360, .str "slots" 361, .str "rows" 362, .str "static" 363, .str "captures" 364, .str "marks" 365].toArray 0, #[]⟩,
  ⟨.type "tuple", none, .seq [].toArray 0, #[]⟩,
  foc (inClass 9 0) "Code.__init__",
  ⟨.type "code", none, .fields [.str "__init__" 355, .str "Code.__init__" 356, .str "/claim/cut.py" 357, .int 21 0, .int 8 0, .int 0 0, .int 0 0, .int 3 0, .ref 82, .bool true, .int 181 0, .ref 83, .none, .ref 84, .ref 85, .ref 86, .int 366 0, .int 21 0, .str "/claim/cut.py" 367].toArray, #[]⟩,
  fo (inClass 9 0) "Code.__init__" (.ref 81) (.str "methodrows.ir" 261) (.ref 87),
  ⟨.type "tuple", none, .seq [].toArray 0, #[]⟩,
  ⟨.none, none, .fields [].toArray, #[]⟩,
  ⟨.type "tuple", none, .seq [.str "self" 372, .str "rows" 373, .str "slots" 374].toArray 0, #[]⟩,
  ⟨.type "tuple", none, .seq [].toArray 0, #[]⟩,
  foc (inClass 9 1) "Code.with_rows",
  ⟨.type "code", none, .fields [.str "with_rows" 369, .str "Code.with_rows" 370, .str "/claim/cut.py" 371, .int 30 0, .int 3 0, .int 0 0, .int 0 0, .int 3 0, .ref 89, .bool true, .int 181 0, .ref 90, .none, .ref 91, .ref 92, .ref 93, .int 375 0, .int 30 0, .str "/claim/cut.py" 376].toArray, #[]⟩,
  fo (inClass 9 1) "Code.with_rows" (.none) (.str "methodrows.ir" 261) (.ref 94),
  ⟨.type "tuple", none, .seq [.str "arity" 378, .str "captures" 379, .str "marks" 380, .str "name" 381, .str "rows" 382, .str "slots" 383, .str "static" 384].toArray 0, #[]⟩,
  dictOf [en P "__module__" 350 (.str "methodrows.ir" 261), en P "__firstlineno__" 354 (.int 19 353), en P "__init__" 368 (.ref 88), en P "with_rows" 377 (.ref 95), en P "__static_attributes__" 385 (.ref 96), en P "__dict__" 387 (.ref 99), en P "__weakref__" 389 (.ref 100), en P "__doc__" 390 (.none)] 4,
  ⟨.type "type", none, .cls { name := "Code", bases := [.type "object"], mro := [.ref 98, .type "object"], ns := 97, qualname := "Code", hasDict := true, slotNames := [], subclasses := [], abstract := false, collection := none, hasDel := false }, #[none, none, some (.str "Code" 343), some (.str "Code" 351), some (.builtin "object.__new__"), some (.bool true)]⟩,
  ⟨.type "getset_descriptor", none, .fields [.str "__dict__" 386, .ref 98, .builtin "function.__dict__", .builtin "function.__dict__#set"].toArray, #[]⟩,
  ⟨.type "getset_descriptor", none, .fields [.str "__weakref__" 388, .ref 98, .builtin "ExceptionGroup.__weakref__", .none].toArray, #[]⟩,
  ⟨.type "super", none, .fields [.ref 98, .ref 98, .ref 98].toArray, #[]⟩,
  ⟨.type "builtin_function_or_method", none, .fields [.builtin "object.__init_subclass__", .ref 98].toArray, #[]⟩,
  ⟨.type "tuple", none, .seq [].toArray 0, #[]⟩,
  ⟨.none, none, .fields [].toArray, #[]⟩,
  ⟨.type "tuple", none, .seq [.str "row" 396, .str "found" 397].toArray 0, #[]⟩,
  ⟨.type "tuple", none, .seq [].toArray 0, #[]⟩,
  foc (atTop 10) "shape_of",
  ⟨.type "code", none, .fields [.str "shape_of" 393, .str "shape_of" 394, .str "/claim/cut.py" 395, .int 32 0, .int 1 0, .int 0 0, .int 0 0, .int 3 0, .ref 103, .bool true, .int 181 0, .ref 104, .none, .ref 105, .ref 106, .ref 107, .int 398 0, .int 32 0, .str "/claim/cut.py" 399].toArray, #[]⟩,
  fo (atTop 10) "shape_of" (.none) (.str "methodrows.ir" 261) (.ref 108),
  ⟨.type "tuple", none, .seq [].toArray 0, #[]⟩,
  ⟨.none, none, .fields [].toArray, #[]⟩,
  foc (atTop 11) "goals_of",
  ⟨.type "code", none, .fields [.str "goals_of" 401, .str "goals_of" 402, .str "/claim/cut.py" 403, .int 37 0, .int 1 0, .int 0 0, .int 0 0, .int 3 0, .ref 110, .bool true, .int 181 0, .ref 111, .none, .none, .none, .ref 112, .int 404 0, .int 37 0, .str "/claim/cut.py" 405].toArray, #[]⟩,
  fo (atTop 11) "goals_of" (.none) (.str "methodrows.ir" 261) (.ref 113),
  ⟨.type "tuple", none, .seq [].toArray 0, #[]⟩,
  ⟨.none, none, .fields [].toArray, #[]⟩,
  foc (atTop 12) "turned_row",
  ⟨.type "code", none, .fields [.str "turned_row" 407, .str "turned_row" 408, .str "/claim/cut.py" 409, .int 39 0, .int 3 0, .int 0 0, .int 0 0, .int 3 0, .ref 115, .bool true, .int 181 0, .ref 116, .none, .none, .none, .ref 117, .int 410 0, .int 39 0, .str "/claim/cut.py" 411].toArray, #[]⟩,
  fo (atTop 12) "turned_row" (.none) (.str "methodrows.ir" 261) (.ref 118),
  ⟨.type "tuple", none, .seq [].toArray 0, #[]⟩,
  ⟨.type "builtin_function_or_method", none, .fields [.builtin "type.__prepare__", .type "type"].toArray, #[]⟩,
  dictOf [en P "__module__" 422 (.str "methodrows.lower_context" 413), en P "__qualname__" 424 (.str "Scope" 423), en P "__firstlineno__" 426 (.int 50 425), en P "__init__" 436 (.ref 135), en P "find" 445 (.ref 142), en P "is_known" 454 (.ref 149), en P "__static_attributes__" 458 (.ref 150)] 7,
  ⟨.type "tuple", none, .seq [].toArray 0, #[]⟩,
  ⟨.none, none, .fields [.int 52 0, .int 4 0, .ref 134, .int 57 0, .int 4 0, .ref 141, .int 67 0, .int 4 0, .ref 148].toArray, #[]⟩,
  ⟨.type "code", none, .fields [.str "Scope" 417, .str "Scope" 418, .str "/claim/cut.py" 419, .int 50 0, .int 0 0, .int 0 0, .int 0 0, .int 0 0, .ref 123, .bool false, .int 181 0, .ref 124, .none, .none, .none, .none, .int 420 0, .int 50 0, .str "/claim/cut.py" 421].toArray, #[]⟩,
  ⟨.type "frame", none, .plain, #[some (.ref 125), some (.ref 3), some (.ref 122), none, some (.str "methodrows.lower_context" 413), none, some (.ref 0)]⟩,
  ⟨.type "tuple", none, .seq [].toArray 0, #[]⟩,
  ⟨.type "tuple", none, .seq [.ref 127].toArray 0, #[]⟩,
  ⟨.type "tuple", none, .seq [].toArray 0, #[]⟩,
  ⟨.none, none, .fields [].toArray, #[]⟩,
  ⟨.type "tuple", none, .seq [.str "self" 430, .str "parent" 431, .str "places" 432, .str "told_global" 433].toArray 0, #[]⟩,
  ⟨.type "tuple", none, .seq [].toArray 0, #[]⟩,
  foc (inClass 14 0) "Scope.__init__",
  ⟨.type "code", none, .fields [.str "__init__" 427, .str "Scope.__init__" 428, .str "/claim/cut.py" 429, .int 52 0, .int 4 0, .int 0 0, .int 0 0, .int 3 0, .ref 129, .bool true, .int 181 0, .ref 130, .none, .ref 131, .ref 132, .ref 133, .int 434 0, .int 52 0, .str "/claim/cut.py" 435].toArray, #[]⟩,
  fo (inClass 14 0) "Scope.__init__" (.ref 128) (.str "methodrows.lower_context" 413) (.ref 134),
  ⟨.type "tuple", none, .seq [].toArray 0, #[]⟩,
  ⟨.none, none, .fields [].toArray, #[]⟩,
  ⟨.type "tuple", none, .seq [.str "self" 440, .str "name" 441, .str "here" 442].toArray 0, #[]⟩,
  ⟨.type "tuple", none, .seq [].toArray 0, #[]⟩,
  foc (inClass 14 1) "Scope.find",
  ⟨.type "code", none, .fields [.str "find" 437, .str "Scope.find" 438, .str "/claim/cut.py" 439, .int 57 0, .int 2 0, .int 0 0, .int 0 0, .int 3 0, .ref 136, .bool true, .int 181 0, .ref 137, .none, .ref 138, .ref 139, .ref 140, .int 443 0, .int 57 0, .str "/claim/cut.py" 444].toArray, #[]⟩,
  fo (inClass 14 1) "Scope.find" (.none) (.str "methodrows.lower_context" 413) (.ref 141),
  ⟨.type "tuple", none, .seq [].toArray 0, #[]⟩,
  ⟨.none, none, .fields [].toArray, #[]⟩,
  ⟨.type "tuple", none, .seq [.str "self" 449, .str "name" 450, .str "here" 451].toArray 0, #[]⟩,
  ⟨.type "tuple", none, .seq [].toArray 0, #[]⟩,
  foc (inClass 14 2) "Scope.is_known",
  ⟨.type "code", none, .fields [.str "is_known" 446, .str "Scope.is_known" 447, .str "/claim/cut.py" 448, .int 67 0, .int 2 0, .int 0 0, .int 0 0, .int 3 0, .ref 143, .bool true, .int 181 0, .ref 144, .none, .ref 145, .ref 146, .ref 147, .int 452 0, .int 67 0, .str "/claim/cut.py" 453].toArray, #[]⟩,
  fo (inClass 14 2) "Scope.is_known" (.none) (.str "methodrows.lower_context" 413) (.ref 148),
  ⟨.type "tuple", none, .seq [.str "parent" 455, .str "places" 456, .str "told_global" 457].toArray 0, #[]⟩,
  dictOf [en P "__module__" 422 (.str "methodrows.lower_context" 413), en P "__firstlineno__" 426 (.int 50 425), en P "__init__" 436 (.ref 135), en P "find" 445 (.ref 142), en P "is_known" 454 (.ref 149), en P "__static_attributes__" 458 (.ref 150), en P "__dict__" 460 (.ref 153), en P "__weakref__" 462 (.ref 154), en P "__doc__" 463 (.none)] 4,
  ⟨.type "type", none, .cls { name := "Scope", bases := [.type "object"], mro := [.ref 152, .type "object"], ns := 151, qualname := "Scope", hasDict := true, slotNames := [], subclasses := [], abstract := false, collection := none, hasDel := false }, #[none, none, some (.str "Scope" 415), some (.str "Scope" 423), some (.builtin "object.__new__"), some (.bool true)]⟩,
  ⟨.type "getset_descriptor", none, .fields [.str "__dict__" 459, .ref 152, .builtin "function.__dict__", .builtin "function.__dict__#set"].toArray, #[]⟩,
  ⟨.type "getset_descriptor", none, .fields [.str "__weakref__" 461, .ref 152, .builtin "ExceptionGroup.__weakref__", .none].toArray, #[]⟩,
  ⟨.type "super", none, .fields [.ref 152, .ref 152, .ref 152].toArray, #[]⟩,
  ⟨.type "builtin_function_or_method", none, .fields [.builtin "object.__init_subclass__", .ref 152].toArray, #[]⟩]
noncomputable def ch157 (P : Params) : List Obj := [⟨.type "tuple", none, .seq [].toArray 0, #[]⟩,
  ⟨.type "builtin_function_or_method", none, .fields [.builtin "type.__prepare__", .type "type"].toArray, #[]⟩,
  dictOf [en P "__module__" 473 (.str "methodrows.lower_context" 413), en P "__qualname__" 475 (.str "Writer" 474), en P "__firstlineno__" 477 (.int 74 476), en P "__init__" 488 (.ref 173), en P "fresh" 495 (.ref 180), en P "label" 502 (.ref 187), en P "mark" 510 (.ref 194), en P "emit" 518 (.ref 201), en P "constant" 527 (.ref 208), en P "call" 537 (.ref 215), en P "builtin" 546 (.ref 222), en P "base" 555 (.ref 229), en P "copied" 564 (.ref 236), en P "is_open" 571 (.ref 243), en P "goal" 579 (.ref 250), en P "code" 585 (.ref 257), en P "__static_attributes__" 594 (.ref 258)] 17,
  ⟨.type "tuple", none, .seq [].toArray 0, #[]⟩,
  ⟨.none, none, .fields [.int 76 0, .int 4 0, .ref 172, .int 86 0, .int 4 0, .ref 179, .int 90 0, .int 4 0, .ref 186, .int 94 0, .int 4 0, .ref 193, .int 97 0, .int 4 0, .ref 200, .int 100 0, .int 4 0, .ref 207, .int 105 0, .int 4 0, .ref 214, .int 110 0, .int 4 0, .ref 221, .int 113 0, .int 4 0, .ref 228, .int 116 0, .int 4 0, .ref 235, .int 121 0, .int 4 0, .ref 242, .int 126 0, .int 4 0, .ref 249, .int 131 0, .int 4 0, .ref 256].toArray, #[]⟩,
  ⟨.type "code", none, .fields [.str "Writer" 468, .str "Writer" 469, .str "/claim/cut.py" 470, .int 74 0, .int 0 0, .int 0 0, .int 0 0, .int 0 0, .ref 160, .bool false, .int 181 0, .ref 161, .none, .none, .none, .none, .int 471 0, .int 74 0, .str "/claim/cut.py" 472].toArray, #[]⟩,
  ⟨.type "frame", none, .plain, #[some (.ref 162), some (.ref 3), some (.ref 159), none, some (.str "methodrows.lower_context" 413), none, some (.ref 0)]⟩,
  ⟨.type "tuple", none, .seq [].toArray 0, #[]⟩,
  ⟨.type "tuple", none, .seq [].toArray 0, #[]⟩,
  ⟨.type "tuple", none, .seq [.ref 164, .ref 165].toArray 0, #[]⟩,
  ⟨.type "tuple", none, .seq [].toArray 0, #[]⟩,
  ⟨.none, none, .fields [].toArray, #[]⟩,
  ⟨.type "tuple", none, .seq [.str "self" 481, .str "name" 482, .str "arity" 483, .str "static" 484, .str "captures" 485].toArray 0, #[]⟩,
  ⟨.type "tuple", none, .seq [].toArray 0, #[]⟩,
  foc (inClass 15 0) "Writer.__init__",
  ⟨.type "code", none, .fields [.str "__init__" 478, .str "Writer.__init__" 479, .str "/claim/cut.py" 480, .int 76 0, .int 5 0, .int 0 0, .int 0 0, .int 3 0, .ref 167, .bool true, .int 181 0, .ref 168, .none, .ref 169, .ref 170, .ref 171, .int 486 0, .int 76 0, .str "/claim/cut.py" 487].toArray, #[]⟩,
  fo (inClass 15 0) "Writer.__init__" (.ref 166) (.str "methodrows.lower_context" 413) (.ref 172),
  ⟨.type "tuple", none, .seq [].toArray 0, #[]⟩,
  ⟨.none, none, .fields [].toArray, #[]⟩,
  ⟨.type "tuple", none, .seq [.str "self" 492].toArray 0, #[]⟩,
  ⟨.type "tuple", none, .seq [].toArray 0, #[]⟩,
  foc (inClass 15 1) "Writer.fresh",
  ⟨.type "code", none, .fields [.str "fresh" 489, .str "Writer.fresh" 490, .str "/claim/cut.py" 491, .int 86 0, .int 1 0, .int 0 0, .int 0 0, .int 3 0, .ref 174, .bool true, .int 181 0, .ref 175, .none, .ref 176, .ref 177, .ref 178, .int 493 0, .int 86 0, .str "/claim/cut.py" 494].toArray, #[]⟩,
  fo (inClass 15 1) "Writer.fresh" (.none) (.str "methodrows.lower_context" 413) (.ref 179),
  ⟨.type "tuple", none, .seq [].toArray 0, #[]⟩,
  ⟨.none, none, .fields [].toArray, #[]⟩,
  ⟨.type "tuple", none, .seq [.str "self" 499].toArray 0, #[]⟩,
  ⟨.type "tuple", none, .seq [].toArray 0, #[]⟩,
  foc (inClass 15 2) "Writer.label",
  ⟨.type "code", none, .fields [.str "label" 496, .str "Writer.label" 497, .str "/claim/cut.py" 498, .int 90 0, .int 1 0, .int 0 0, .int 0 0, .int 3 0, .ref 181, .bool true, .int 181 0, .ref 182, .none, .ref 183, .ref 184, .ref 185, .int 500 0, .int 90 0, .str "/claim/cut.py" 501].toArray, #[]⟩,
  fo (inClass 15 2) "Writer.label" (.none) (.str "methodrows.lower_context" 413) (.ref 186),
  ⟨.type "tuple", none, .seq [].toArray 0, #[]⟩,
  ⟨.none, none, .fields [].toArray, #[]⟩,
  ⟨.type "tuple", none, .seq [.str "self" 506, .str "label" 507].toArray 0, #[]⟩,
  ⟨.type "tuple", none, .seq [].toArray 0, #[]⟩,
  foc (inClass 15 3) "Writer.mark",
  ⟨.type "code", none, .fields [.str "mark" 503, .str "Writer.mark" 504, .str "/claim/cut.py" 505, .int 94 0, .int 2 0, .int 0 0, .int 0 0, .int 3 0, .ref 188, .bool true, .int 181 0, .ref 189, .none, .ref 190, .ref 191, .ref 192, .int 508 0, .int 94 0, .str "/claim/cut.py" 509].toArray, #[]⟩,
  fo (inClass 15 3) "Writer.mark" (.none) (.str "methodrows.lower_context" 413) (.ref 193),
  ⟨.type "tuple", none, .seq [].toArray 0, #[]⟩,
  ⟨.none, none, .fields [].toArray, #[]⟩,
  ⟨.type "tuple", none, .seq [.str "self" 514, .str "row" 515].toArray 0, #[]⟩,
  ⟨.type "tuple", none, .seq [].toArray 0, #[]⟩,
  foc (inClass 15 4) "Writer.emit",
  ⟨.type "code", none, .fields [.str "emit" 511, .str "Writer.emit" 512, .str "/claim/cut.py" 513, .int 97 0, .int 2 0, .int 0 0, .int 0 0, .int 3 0, .ref 195, .bool true, .int 181 0, .ref 196, .none, .ref 197, .ref 198, .ref 199, .int 516 0, .int 97 0, .str "/claim/cut.py" 517].toArray, #[]⟩,
  fo (inClass 15 4) "Writer.emit" (.none) (.str "methodrows.lower_context" 413) (.ref 200),
  ⟨.type "tuple", none, .seq [].toArray 0, #[]⟩,
  ⟨.none, none, .fields [].toArray, #[]⟩,
  ⟨.type "tuple", none, .seq [.str "self" 522, .str "value" 523, .str "found" 524].toArray 0, #[]⟩,
  ⟨.type "tuple", none, .seq [].toArray 0, #[]⟩,
  foc (inClass 15 5) "Writer.constant",
  ⟨.type "code", none, .fields [.str "constant" 519, .str "Writer.constant" 520, .str "/claim/cut.py" 521, .int 100 0, .int 2 0, .int 0 0, .int 0 0, .int 3 0, .ref 202, .bool true, .int 181 0, .ref 203, .none, .ref 204, .ref 205, .ref 206, .int 525 0, .int 100 0, .str "/claim/cut.py" 526].toArray, #[]⟩,
  fo (inClass 15 5) "Writer.constant" (.none) (.str "methodrows.lower_context" 413) (.ref 207),
  ⟨.type "tuple", none, .seq [].toArray 0, #[]⟩,
  ⟨.none, none, .fields [].toArray, #[]⟩,
  ⟨.type "tuple", none, .seq [.str "self" 531, .str "callee" 532, .str "args" 533, .str "found" 534].toArray 0, #[]⟩,
  ⟨.type "tuple", none, .seq [].toArray 0, #[]⟩,
  foc (inClass 15 6) "Writer.call",
  ⟨.type "code", none, .fields [.str "call" 528, .str "Writer.call" 529, .str "/claim/cut.py" 530, .int 105 0, .int 3 0, .int 0 0, .int 0 0, .int 3 0, .ref 209, .bool true, .int 181 0, .ref 210, .none, .ref 211, .ref 212, .ref 213, .int 535 0, .int 105 0, .str "/claim/cut.py" 536].toArray, #[]⟩,
  fo (inClass 15 6) "Writer.call" (.none) (.str "methodrows.lower_context" 413) (.ref 214),
  ⟨.type "tuple", none, .seq [].toArray 0, #[]⟩,
  ⟨.none, none, .fields [].toArray, #[]⟩,
  ⟨.type "tuple", none, .seq [.str "self" 541, .str "name" 542, .str "args" 543].toArray 0, #[]⟩,
  ⟨.type "tuple", none, .seq [].toArray 0, #[]⟩,
  foc (inClass 15 7) "Writer.builtin",
  ⟨.type "code", none, .fields [.str "builtin" 538, .str "Writer.builtin" 539, .str "/claim/cut.py" 540, .int 110 0, .int 3 0, .int 0 0, .int 0 0, .int 3 0, .ref 216, .bool true, .int 181 0, .ref 217, .none, .ref 218, .ref 219, .ref 220, .int 544 0, .int 110 0, .str "/claim/cut.py" 545].toArray, #[]⟩,
  fo (inClass 15 7) "Writer.builtin" (.none) (.str "methodrows.lower_context" 413) (.ref 221),
  ⟨.type "tuple", none, .seq [].toArray 0, #[]⟩,
  ⟨.none, none, .fields [].toArray, #[]⟩,
  ⟨.type "tuple", none, .seq [.str "self" 550, .str "name" 551, .str "args" 552].toArray 0, #[]⟩,
  ⟨.type "tuple", none, .seq [].toArray 0, #[]⟩,
  foc (inClass 15 8) "Writer.base",
  ⟨.type "code", none, .fields [.str "base" 547, .str "Writer.base" 548, .str "/claim/cut.py" 549, .int 113 0, .int 3 0, .int 0 0, .int 0 0, .int 3 0, .ref 223, .bool true, .int 181 0, .ref 224, .none, .ref 225, .ref 226, .ref 227, .int 553 0, .int 113 0, .str "/claim/cut.py" 554].toArray, #[]⟩,
  fo (inClass 15 8) "Writer.base" (.none) (.str "methodrows.lower_context" 413) (.ref 228),
  ⟨.type "tuple", none, .seq [].toArray 0, #[]⟩,
  ⟨.none, none, .fields [].toArray, #[]⟩,
  ⟨.type "tuple", none, .seq [.str "self" 559, .str "register" 560, .str "found" 561].toArray 0, #[]⟩,
  ⟨.type "tuple", none, .seq [].toArray 0, #[]⟩,
  foc (inClass 15 9) "Writer.copied",
  ⟨.type "code", none, .fields [.str "copied" 556, .str "Writer.copied" 557, .str "/claim/cut.py" 558, .int 116 0, .int 2 0, .int 0 0, .int 0 0, .int 3 0, .ref 230, .bool true, .int 181 0, .ref 231, .none, .ref 232, .ref 233, .ref 234, .int 562 0, .int 116 0, .str "/claim/cut.py" 563].toArray, #[]⟩,
  fo (inClass 15 9) "Writer.copied" (.none) (.str "methodrows.lower_context" 413) (.ref 235),
  ⟨.type "tuple", none, .seq [].toArray 0, #[]⟩,
  ⟨.none, none, .fields [].toArray, #[]⟩,
  ⟨.type "tuple", none, .seq [.str "self" 568].toArray 0, #[]⟩,
  ⟨.type "tuple", none, .seq [].toArray 0, #[]⟩,
  foc (inClass 15 10) "Writer.is_open",
  ⟨.type "code", none, .fields [.str "is_open" 565, .str "Writer.is_open" 566, .str "/claim/cut.py" 567, .int 121 0, .int 1 0, .int 0 0, .int 0 0, .int 3 0, .ref 237, .bool true, .int 181 0, .ref 238, .none, .ref 239, .ref 240, .ref 241, .int 569 0, .int 121 0, .str "/claim/cut.py" 570].toArray, #[]⟩,
  fo (inClass 15 10) "Writer.is_open" (.none) (.str "methodrows.lower_context" 413) (.ref 242),
  ⟨.type "tuple", none, .seq [].toArray 0, #[]⟩,
  ⟨.none, none, .fields [].toArray, #[]⟩,
  ⟨.type "tuple", none, .seq [.str "self" 575, .str "label" 576].toArray 0, #[]⟩,
  ⟨.type "tuple", none, .seq [].toArray 0, #[]⟩,
  foc (inClass 15 11) "Writer.goal",
  ⟨.type "code", none, .fields [.str "goal" 572, .str "Writer.goal" 573, .str "/claim/cut.py" 574, .int 126 0, .int 2 0, .int 0 0, .int 0 0, .int 3 0, .ref 244, .bool true, .int 181 0, .ref 245, .none, .ref 246, .ref 247, .ref 248, .int 577 0, .int 126 0, .str "/claim/cut.py" 578].toArray, #[]⟩,
  fo (inClass 15 11) "Writer.goal" (.none) (.str "methodrows.lower_context" 413) (.ref 249),
  ⟨.type "tuple", none, .seq [].toArray 0, #[]⟩,
  ⟨.type "tuple", none, .seq [.ref 251].toArray 0, #[]⟩,
  ⟨.type "tuple", none, .seq [].toArray 0, #[]⟩,
  ⟨.none, none, .fields [].toArray, #[]⟩,
  foc (inClass 15 12) "Writer.code",
  ⟨.type "code", none, .fields [.str "code" 580, .str "Writer.code" 581, .str "/claim/cut.py" 582, .int 131 0, .int 2 0, .int 0 0, .int 0 0, .int 3 0, .ref 253, .bool true, .int 181 0, .ref 254, .none, .none, .none, .ref 255, .int 583 0, .int 131 0, .str "/claim/cut.py" 584].toArray, #[]⟩,
  fo (inClass 15 12) "Writer.code" (.ref 252) (.str "methodrows.lower_context" 413) (.ref 256),
  ⟨.type "tuple", none, .seq [.str "arity" 586, .str "captures" 587, .str "labels" 588, .str "name" 589, .str "rows" 590, .str "slots" 591, .str "static" 592, .str "ways" 593].toArray 0, #[]⟩,
  dictOf [en P "__module__" 473 (.str "methodrows.lower_context" 413), en P "__firstlineno__" 477 (.int 74 476), en P "__init__" 488 (.ref 173), en P "fresh" 495 (.ref 180), en P "label" 502 (.ref 187), en P "mark" 510 (.ref 194), en P "emit" 518 (.ref 201), en P "constant" 527 (.ref 208), en P "call" 537 (.ref 215), en P "builtin" 546 (.ref 222), en P "base" 555 (.ref 229), en P "copied" 564 (.ref 236), en P "is_open" 571 (.ref 243), en P "goal" 579 (.ref 250), en P "code" 585 (.ref 257), en P "__static_attributes__" 594 (.ref 258), en P "__dict__" 596 (.ref 261), en P "__weakref__" 598 (.ref 262), en P "__doc__" 599 (.none)] 4,
  ⟨.type "type", none, .cls { name := "Writer", bases := [.type "object"], mro := [.ref 260, .type "object"], ns := 259, qualname := "Writer", hasDict := true, slotNames := [], subclasses := [], abstract := false, collection := none, hasDel := false }, #[none, none, some (.str "Writer" 466), some (.str "Writer" 474), some (.builtin "object.__new__"), some (.bool true)]⟩,
  ⟨.type "getset_descriptor", none, .fields [.str "__dict__" 595, .ref 260, .builtin "function.__dict__", .builtin "function.__dict__#set"].toArray, #[]⟩,
  ⟨.type "getset_descriptor", none, .fields [.str "__weakref__" 597, .ref 260, .builtin "ExceptionGroup.__weakref__", .none].toArray, #[]⟩,
  ⟨.type "super", none, .fields [.ref 260, .ref 260, .ref 260].toArray, #[]⟩,
  ⟨.type "builtin_function_or_method", none, .fields [.builtin "object.__init_subclass__", .ref 260].toArray, #[]⟩]
noncomputable def ch265 (P : Params) : List Obj := [⟨.type "tuple", none, .seq [].toArray 0, #[]⟩,
  ⟨.none, none, .fields [].toArray, #[]⟩,
  ⟨.type "tuple", none, .seq [.str "script" 607, .str "told" 608, .str "size" 609].toArray 0, #[]⟩,
  ⟨.type "tuple", none, .seq [].toArray 0, #[]⟩,
  foc (atTop 17) "_law_keg",
  ⟨.type "code", none, .fields [.str "_law_keg" 604, .str "_law_keg" 605, .str "/claim/cut.py" 606, .int 137 0, .int 1 0, .int 0 0, .int 0 0, .int 3 0, .ref 265, .bool true, .int 181 0, .ref 266, .none, .ref 267, .ref 268, .ref 269, .int 610 0, .int 137 0, .str "/claim/cut.py" 611].toArray, #[]⟩,
  fo (atTop 17) "_law_keg" (.none) (.str "law_pc0200_01" 602) (.ref 270),
  ⟨.type "tuple", none, .seq [].toArray 0, #[]⟩,
  ⟨.none, none, .fields [].toArray, #[]⟩,
  ⟨.type "tuple", none, .seq [.str "keg" 616, .str "many" 617, .str "found" 618].toArray 0, #[]⟩,
  ⟨.type "tuple", none, .seq [].toArray 0, #[]⟩,
  foc (atTop 18) "_law_tap",
  ⟨.type "code", none, .fields [.str "_law_tap" 613, .str "_law_tap" 614, .str "/claim/cut.py" 615, .int 141 0, .int 2 0, .int 0 0, .int 0 0, .int 3 0, .ref 272, .bool true, .int 181 0, .ref 273, .none, .ref 274, .ref 275, .ref 276, .int 619 0, .int 141 0, .str "/claim/cut.py" 620].toArray, #[]⟩,
  fo (atTop 18) "_law_tap" (.none) (.str "law_pc0200_01" 602) (.ref 277),
  ⟨.type "tuple", none, .seq [].toArray 0, #[]⟩,
  ⟨.none, none, .fields [].toArray, #[]⟩,
  ⟨.type "tuple", none, .seq [.str "own" 625].toArray 0, #[]⟩,
  ⟨.type "tuple", none, .seq [].toArray 0, #[]⟩,
  foc (atTop 19) "_law_new",
  ⟨.type "code", none, .fields [.str "_law_new" 622, .str "_law_new" 623, .str "/claim/cut.py" 624, .int 148 0, .int 1 0, .int 0 0, .int 0 0, .int 3 0, .ref 279, .bool true, .int 181 0, .ref 280, .none, .ref 281, .ref 282, .ref 283, .int 626 0, .int 148 0, .str "/claim/cut.py" 627].toArray, #[]⟩,
  fo (atTop 19) "_law_new" (.none) (.str "law_pc0200_01" 602) (.ref 284),
  ⟨.type "tuple", none, .seq [].toArray 0, #[]⟩,
  ⟨.none, none, .fields [].toArray, #[]⟩,
  ⟨.type "tuple", none, .seq [.str "own" 632, .str "value" 633, .str "found" 634].toArray 0, #[]⟩,
  ⟨.type "tuple", none, .seq [].toArray 0, #[]⟩,
  foc (atTop 20) "_law_constant",
  ⟨.type "code", none, .fields [.str "_law_constant" 629, .str "_law_constant" 630, .str "/claim/cut.py" 631, .int 151 0, .int 2 0, .int 0 0, .int 0 0, .int 3 0, .ref 286, .bool true, .int 181 0, .ref 287, .none, .ref 288, .ref 289, .ref 290, .int 635 0, .int 151 0, .str "/claim/cut.py" 636].toArray, #[]⟩,
  fo (atTop 20) "_law_constant" (.none) (.str "law_pc0200_01" 602) (.ref 291),
  ⟨.type "tuple", none, .seq [].toArray 0, #[]⟩,
  ⟨.none, none, .fields [].toArray, #[]⟩,
  ⟨.type "tuple", none, .seq [.str "own" 641, .str "value" 642, .str "args" 643, .str "callee" 644, .str "found" 645].toArray 0, #[]⟩,
  ⟨.type "tuple", none, .seq [].toArray 0, #[]⟩,
  foc (atTop 21) "_law_called",
  ⟨.type "code", none, .fields [.str "_law_called" 638, .str "_law_called" 639, .str "/claim/cut.py" 640, .int 155 0, .int 3 0, .int 0 0, .int 0 0, .int 3 0, .ref 293, .bool true, .int 181 0, .ref 294, .none, .ref 295, .ref 296, .ref 297, .int 646 0, .int 155 0, .str "/claim/cut.py" 647].toArray, #[]⟩,
  fo (atTop 21) "_law_called" (.none) (.str "law_pc0200_01" 602) (.ref 298),
  ⟨.type "tuple", none, .seq [].toArray 0, #[]⟩,
  ⟨.none, none, .fields [].toArray, #[]⟩,
  foc (atTop 22) "_law_deed",
  ⟨.type "code", none, .fields [.str "_law_deed" 649, .str "_law_deed" 650, .str "/claim/cut.py" 651, .int 160 0, .int 3 0, .int 0 0, .int 0 0, .int 3 0, .ref 300, .bool true, .int 181 0, .ref 301, .none, .none, .none, .ref 302, .int 652 0, .int 160 0, .str "/claim/cut.py" 653].toArray, #[]⟩,
  fo (atTop 22) "_law_deed" (.none) (.str "law_pc0200_01" 602) (.ref 303),
  ⟨.type "tuple", none, .seq [].toArray 0, #[]⟩,
  ⟨.none, none, .fields [].toArray, #[]⟩,
  ⟨.type "tuple", none, .seq [.str "own" 658].toArray 0, #[]⟩,
  ⟨.type "tuple", none, .seq [].toArray 0, #[]⟩,
  foc (atTop 23) "_law_is_open",
  ⟨.type "code", none, .fields [.str "_law_is_open" 655, .str "_law_is_open" 656, .str "/claim/cut.py" 657, .int 190 0, .int 1 0, .int 0 0, .int 0 0, .int 3 0, .ref 305, .bool true, .int 181 0, .ref 306, .none, .ref 307, .ref 308, .ref 309, .int 659 0, .int 190 0, .str "/claim/cut.py" 660].toArray, #[]⟩,
  fo (atTop 23) "_law_is_open" (.none) (.str "law_pc0200_01" 602) (.ref 310),
  ⟨.type "tuple", none, .seq [].toArray 0, #[]⟩,
  ⟨.none, none, .fields [].toArray, #[]⟩,
  ⟨.type "tuple", none, .seq [.str "writer" 665].toArray 0, #[]⟩,
  ⟨.type "tuple", none, .seq [].toArray 0, #[]⟩,
  foc (atTop 24) "_law_code",
  ⟨.type "code", none, .fields [.str "_law_code" 662, .str "_law_code" 663, .str "/claim/cut.py" 664, .int 194 0, .int 1 0, .int 0 0, .int 0 0, .int 3 0, .ref 312, .bool true, .int 181 0, .ref 313, .none, .ref 314, .ref 315, .ref 316, .int 666 0, .int 194 0, .str "/claim/cut.py" 667].toArray, #[]⟩,
  fo (atTop 24) "_law_code" (.none) (.str "law_pc0200_01" 602) (.ref 317),
  ⟨.type "tuple", none, .seq [].toArray 0, #[]⟩,
  ⟨.none, none, .fields [].toArray, #[]⟩,
  foc (atTop 25) "_law_written_right",
  ⟨.type "code", none, .fields [.str "_law_written_right" 669, .str "_law_written_right" 670, .str "/claim/cut.py" 671, .int 199 0, .int 1 0, .int 0 0, .int 0 0, .int 3 0, .ref 319, .bool true, .int 181 0, .ref 320, .none, .none, .none, .ref 321, .int 672 0, .int 199 0, .str "/claim/cut.py" 673].toArray, #[]⟩,
  fo (atTop 25) "_law_written_right" (.none) (.str "law_pc0200_01" 602) (.ref 322),
  ⟨.type "tuple", none, .seq [].toArray 0, #[]⟩,
  ⟨.none, none, .fields [].toArray, #[]⟩,
  foc (atTop 26) "_law_scopes_right",
  ⟨.type "code", none, .fields [.str "_law_scopes_right" 675, .str "_law_scopes_right" 676, .str "/claim/cut.py" 677, .int 217 0, .int 1 0, .int 0 0, .int 0 0, .int 3 0, .ref 324, .bool true, .int 181 0, .ref 325, .none, .none, .none, .ref 326, .int 678 0, .int 217 0, .str "/claim/cut.py" 679].toArray, #[]⟩,
  fo (atTop 26) "_law_scopes_right" (.none) (.str "law_pc0200_01" 602) (.ref 327),
  ⟨.type "tuple", none, .seq [].toArray 0, #[]⟩,
  ⟨.none, none, .fields [].toArray, #[]⟩,
  ⟨.type "tuple", none, .seq [.str "script" 684, .str "keg" 685].toArray 0, #[]⟩,
  ⟨.type "tuple", none, .seq [].toArray 0, #[]⟩,
  foc (atTop 27) "law",
  ⟨.type "code", none, .fields [.str "law" 681, .str "law" 682, .str "/claim/cut.py" 683, .int 233 0, .int 1 0, .int 0 0, .int 0 0, .int 3 0, .ref 329, .bool true, .int 181 0, .ref 330, .none, .ref 331, .ref 332, .ref 333, .int 686 0, .int 233 0, .str "/claim/cut.py" 687].toArray, #[]⟩,
  fo (atTop 27) "law" (.none) (.str "law_pc0200_01" 602) (.ref 334)]
noncomputable def o12pre (P : Params) : Obj := ⟨.none, none, .fields [].toArray, #[]⟩
noncomputable def hpre (P : Params) : Heap := ⟨Array.mk ([boot_o_0 P, boot_o_1 P, boot_o_2 P, boot_o_3 P, boot_o_4 P, boot_o_5 P, boot_o_6 P, boot_o_7 P, boot_o_8 P, boot_o_9 P, boot_o_10 P] ++ (ch11 P ++ ([o12pre P] ++ (ch13 P)))), {}⟩
noncomputable def o2p6 (P : Params) : Obj := ⟨.none, none, .dict [en P "type.__subclasses__.Exception.0" 223 (.int 39 0), en P "type.__subclasses__.Exception.n" 224 (.int 1 0)].toArray 2, #[]⟩
noncomputable def o3p6 (P : Params) : Obj := dictOf [en P "__name__" 165 (.str "methodrows.ir" 261), en P "__doc__" 166 (.none), en P "__package__" 167 (.none), en P "__loader__" 168 (.builtin "__main__.__loader__#opaque"), en P "__spec__" 169 (.none), en P "__annotations__" 170 (.ref 6), en P "__builtins__" 171 (.ref 4), en P "__file__" 173 (.str "/claim/cut.py" 172), en P "__cached__" 174 (.none), en P "_wall" 193 (.ref 21), en P "RowsError" 226 (.ref 39), en P "LowerFault" 242 (.ref 52), en P "MachineFault" 258 (.ref 64), en P "NOTHING" 260 (.ref 67)] 14
noncomputable def o12p6 (P : Params) : Obj := ⟨.none, none, .fields [.int 1 0, .int 0 0, .ref 20, .int 5 0, .int 0 0, .ref 27, .int 11 0, .int 0 0, .ref 48, .int 13 0, .int 0 0, .ref 60].toArray, #[]⟩
noncomputable def hp6 (P : Params) : Heap := ⟨Array.mk ([boot_o_0 P, boot_o_1 P, o2p6 P, o3p6 P, boot_o_4 P, boot_o_5 P, boot_o_6 P, boot_o_7 P, boot_o_8 P, boot_o_9 P, boot_o_10 P] ++ (ch11 P ++ ([o12p6 P] ++ (ch13 P ++ (ch15 P))))), {}⟩
noncomputable def o3p7 (P : Params) : Obj := dictOf [en P "__name__" 165 (.str "methodrows.ir" 261), en P "__doc__" 166 (.none), en P "__package__" 167 (.none), en P "__loader__" 168 (.builtin "__main__.__loader__#opaque"), en P "__spec__" 169 (.none), en P "__annotations__" 170 (.ref 6), en P "__builtins__" 171 (.ref 4), en P "__file__" 173 (.str "/claim/cut.py" 172), en P "__cached__" 174 (.none), en P "_wall" 193 (.ref 21), en P "RowsError" 226 (.ref 39), en P "LowerFault" 242 (.ref 52), en P "MachineFault" 258 (.ref 64), en P "NOTHING" 260 (.ref 67), en P "SHAPES" 338 (.ref 68)] 15
noncomputable def hp7 (P : Params) : Heap := ⟨Array.mk ([boot_o_0 P, boot_o_1 P, o2p6 P, o3p7 P, boot_o_4 P, boot_o_5 P, boot_o_6 P, boot_o_7 P, boot_o_8 P, boot_o_9 P, boot_o_10 P] ++ (ch11 P ++ ([o12p6 P] ++ (ch13 P ++ (ch15 P ++ (ch68 P)))))), {}⟩
noncomputable def o3p14 (P : Params) : Obj := dictOf [en P "__name__" 165 (.str "methodrows.lower_context" 413), en P "__doc__" 166 (.none), en P "__package__" 167 (.none), en P "__loader__" 168 (.builtin "__main__.__loader__#opaque"), en P "__spec__" 169 (.none), en P "__annotations__" 170 (.ref 6), en P "__builtins__" 171 (.ref 4), en P "__file__" 173 (.str "/claim/cut.py" 172), en P "__cached__" 174 (.none), en P "_wall" 193 (.ref 21), en P "RowsError" 226 (.ref 39), en P "LowerFault" 242 (.ref 52), en P "MachineFault" 258 (.ref 64), en P "NOTHING" 260 (.ref 67), en P "SHAPES" 338 (.ref 68), en P "ENDS" 342 (.ref 70), en P "Code" 392 (.ref 98), en P "shape_of" 400 (.ref 109), en P "goals_of" 406 (.ref 114), en P "turned_row" 412 (.ref 119), en P "Scope" 465 (.ref 152)] 21
noncomputable def o12p14 (P : Params) : Obj := ⟨.none, none, .fields [.int 1 0, .int 0 0, .ref 20, .int 5 0, .int 0 0, .ref 27, .int 11 0, .int 0 0, .ref 48, .int 13 0, .int 0 0, .ref 60, .int 19 0, .int 0 0, .ref 76, .int 32 0, .int 0 0, .ref 108, .int 37 0, .int 0 0, .ref 113, .int 39 0, .int 0 0, .ref 118, .int 50 0, .int 0 0, .ref 125].toArray, #[]⟩
noncomputable def hp14 (P : Params) : Heap := ⟨Array.mk ([boot_o_0 P, boot_o_1 P, o2p6 P, o3p14 P, boot_o_4 P, boot_o_5 P, boot_o_6 P, boot_o_7 P, boot_o_8 P, boot_o_9 P, boot_o_10 P] ++ (ch11 P ++ ([o12p14 P] ++ (ch13 P ++ (ch15 P ++ (ch68 P ++ (ch70 P))))))), {}⟩
noncomputable def o3p15 (P : Params) : Obj := dictOf [en P "__name__" 165 (.str "methodrows.lower_context" 413), en P "__doc__" 166 (.none), en P "__package__" 167 (.none), en P "__loader__" 168 (.builtin "__main__.__loader__#opaque"), en P "__spec__" 169 (.none), en P "__annotations__" 170 (.ref 6), en P "__builtins__" 171 (.ref 4), en P "__file__" 173 (.str "/claim/cut.py" 172), en P "__cached__" 174 (.none), en P "_wall" 193 (.ref 21), en P "RowsError" 226 (.ref 39), en P "LowerFault" 242 (.ref 52), en P "MachineFault" 258 (.ref 64), en P "NOTHING" 260 (.ref 67), en P "SHAPES" 338 (.ref 68), en P "ENDS" 342 (.ref 70), en P "Code" 392 (.ref 98), en P "shape_of" 400 (.ref 109), en P "goals_of" 406 (.ref 114), en P "turned_row" 412 (.ref 119), en P "Scope" 465 (.ref 152), en P "Writer" 601 (.ref 260)] 22
noncomputable def o12p15 (P : Params) : Obj := ⟨.none, none, .fields [.int 1 0, .int 0 0, .ref 20, .int 5 0, .int 0 0, .ref 27, .int 11 0, .int 0 0, .ref 48, .int 13 0, .int 0 0, .ref 60, .int 19 0, .int 0 0, .ref 76, .int 32 0, .int 0 0, .ref 108, .int 37 0, .int 0 0, .ref 113, .int 39 0, .int 0 0, .ref 118, .int 50 0, .int 0 0, .ref 125, .int 74 0, .int 0 0, .ref 162].toArray, #[]⟩
noncomputable def hp15 (P : Params) : Heap := ⟨Array.mk ([boot_o_0 P, boot_o_1 P, o2p6 P, o3p15 P, boot_o_4 P, boot_o_5 P, boot_o_6 P, boot_o_7 P, boot_o_8 P, boot_o_9 P, boot_o_10 P] ++ (ch11 P ++ ([o12p15 P] ++ (ch13 P ++ (ch15 P ++ (ch68 P ++ (ch70 P ++ (ch157 P)))))))), {}⟩
noncomputable def o3p27 (P : Params) : Obj := dictOf [en P "__name__" 165 (.str "law_pc0200_01" 602), en P "__doc__" 166 (.none), en P "__package__" 167 (.none), en P "__loader__" 168 (.builtin "__main__.__loader__#opaque"), en P "__spec__" 169 (.none), en P "__annotations__" 170 (.ref 6), en P "__builtins__" 171 (.ref 4), en P "__file__" 173 (.str "/claim/cut.py" 172), en P "__cached__" 174 (.none), en P "_wall" 193 (.ref 21), en P "RowsError" 226 (.ref 39), en P "LowerFault" 242 (.ref 52), en P "MachineFault" 258 (.ref 64), en P "NOTHING" 260 (.ref 67), en P "SHAPES" 338 (.ref 68), en P "ENDS" 342 (.ref 70), en P "Code" 392 (.ref 98), en P "shape_of" 400 (.ref 109), en P "goals_of" 406 (.ref 114), en P "turned_row" 412 (.ref 119), en P "Scope" 465 (.ref 152), en P "Writer" 601 (.ref 260), en P "_law_keg" 612 (.ref 271), en P "_law_tap" 621 (.ref 278), en P "_law_new" 628 (.ref 285), en P "_law_constant" 637 (.ref 292), en P "_law_called" 648 (.ref 299), en P "_law_deed" 654 (.ref 304), en P "_law_is_open" 661 (.ref 311), en P "_law_code" 668 (.ref 318), en P "_law_written_right" 674 (.ref 323), en P "_law_scopes_right" 680 (.ref 328), en P "law" 688 (.ref 335)] 33
noncomputable def o12p27 (P : Params) : Obj := ⟨.none, none, .fields [.int 1 0, .int 0 0, .ref 20, .int 5 0, .int 0 0, .ref 27, .int 11 0, .int 0 0, .ref 48, .int 13 0, .int 0 0, .ref 60, .int 19 0, .int 0 0, .ref 76, .int 32 0, .int 0 0, .ref 108, .int 37 0, .int 0 0, .ref 113, .int 39 0, .int 0 0, .ref 118, .int 50 0, .int 0 0, .ref 125, .int 74 0, .int 0 0, .ref 162, .int 137 0, .int 0 0, .ref 270, .int 141 0, .int 0 0, .ref 277, .int 148 0, .int 0 0, .ref 284, .int 151 0, .int 0 0, .ref 291, .int 155 0, .int 0 0, .ref 298, .int 160 0, .int 0 0, .ref 303, .int 190 0, .int 0 0, .ref 310, .int 194 0, .int 0 0, .ref 317, .int 199 0, .int 0 0, .ref 322, .int 217 0, .int 0 0, .ref 327, .int 233 0, .int 0 0, .ref 334].toArray, #[]⟩
noncomputable def hp27 (P : Params) : Heap := ⟨Array.mk ([boot_o_0 P, boot_o_1 P, o2p6 P, o3p27 P, boot_o_4 P, boot_o_5 P, boot_o_6 P, boot_o_7 P, boot_o_8 P, boot_o_9 P, boot_o_10 P] ++ (ch11 P ++ ([o12p27 P] ++ (ch13 P ++ (ch15 P ++ (ch68 P ++ (ch70 P ++ (ch157 P ++ (ch265 P))))))))), {}⟩
end SH0
section SH1
noncomputable abbrev bE : List Stmt := behindTheImports P0
noncomputable abbrev envT : Env := { scope := P0.main.scope, locals := mainNs, globals := mainNs, cells := [], code := .ref 13, frame := some 14 }
noncomputable abbrev cE : Code := .body bE envT
noncomputable abbrev posZ : Pos := ⟨0, 0, 0, 0⟩
noncomputable abbrev annT : Option Value := some (.ref 6)
noncomputable abbrev shOf (h : Params → Heap) (k : Nat) (w : World) (os : OsState) : Shared := ⟨h w.params, #[], {}, k, os⟩
noncomputable def stp6 : List Stmt := (bE.drop 0).take 7
noncomputable def stp7 : List Stmt := (bE.drop 7).take 1
noncomputable def stp14 : List Stmt := (bE.drop 8).take 7
noncomputable def stp15 : List Stmt := (bE.drop 15).take 1
noncomputable def stp27 : List Stmt := (bE.drop 16).take 12
theorem bE_is : bE = stp6 ++ (stp7 ++ (stp14 ++ (stp15 ++ (stp27 ++ [])))) := by kernel_rfl
theorem pc_pre (w : World) (os : OsState) : topGo treeTable P0 w 11 annT 12 ⟨boot_heap w.params, Array.mk [], boot_drawn, boot_toks, os⟩ (topStub P0) = some (shOf hpre 187 w os, ⟨denote treeTable cE, cE, posZ, [topFrame posZ]⟩) := by kernel_rfl
theorem pc_block (w : World) (os : OsState) : segRun treeTable P0 w 11 annT 1 1 (shOf hpre 187 w os) (blockOf bE envT cE posZ [topFrame posZ]) = some (.next, shOf hpre 187 w os, cE, posZ) := by kernel_rfl
theorem pc_p6 (w : World) (os : OsState) : segRun treeTable P0 w 11 annT 1 716 (shOf hpre 187 w os) (piecesOf stp6 envT cE posZ [topFrame posZ]) = some (.next, shOf hp6 263 w os, cE, ⟨16, 0, 16, 8⟩) := by kernel_rfl
theorem pc_p7 (w : World) : ∀ os : OsState, segRun treeTable P0 w 11 annT 1 441 (shOf hp6 263 w os) (piecesOf stp7 envT cE ⟨16, 0, 16, 8⟩ [topFrame posZ]) = some (.next, shOf hp7 339 w os, cE, ⟨17, 0, 17, 6⟩) :=
  byRow2 "special-get-raises" (P := fun w => ∀ os : OsState, segRun treeTable P0 w 11 annT 1 441 (shOf hp6 263 w os) (piecesOf stp7 envT cE ⟨16, 0, 16, 8⟩ [topFrame posZ]) = some (.next, shOf hp7 339 w os, cE, ⟨17, 0, 17, 6⟩))
    (fun w os => by kernel_rfl) (fun w os => by kernel_rfl) w
theorem pc_p14 (w : World) (os : OsState) : segRun treeTable P0 w 11 annT 1 674 (shOf hp7 339 w os) (piecesOf stp14 envT cE ⟨17, 0, 17, 6⟩ [topFrame posZ]) = some (.next, shOf hp14 466 w os, cE, ⟨50, 0, 73, 20⟩) := by kernel_rfl
theorem pc_p15 (w : World) (os : OsState) : segRun treeTable P0 w 11 annT 1 624 (shOf hp14 466 w os) (piecesOf stp15 envT cE ⟨50, 0, 73, 20⟩ [topFrame posZ]) = some (.next, shOf hp15 602 w os, cE, ⟨74, 0, 135, 95⟩) := by kernel_rfl
theorem pc_p27 (w : World) (os : OsState) : segRun treeTable P0 w 11 annT 1 331 (shOf hp15 602 w os) (piecesOf stp27 envT cE ⟨74, 0, 135, 95⟩ [topFrame posZ]) = some (.next, shOf hp27 689 w os, cE, ⟨233, 0, 235, 61⟩) := by kernel_rfl
theorem pc_fin (w : World) (os : OsState) : topRun treeTable P0 w 11 annT 2 (shOf hp27 689 w os) (restOf [] envT cE ⟨233, 0, 235, 61⟩ [topFrame posZ]) = some (shOf hp27 689 w os) := by kernel_rfl
theorem pc_run (w : World) (os : OsState) : topRun treeTable P0 w 11 annT (12 + (1 + (716 + (441 + (674 + (624 + (331 + 2))))))) ⟨boot_heap w.params, Array.mk [], boot_drawn, boot_toks, os⟩ (topStub P0) = some (shOf hp27 689 w os) := by
  refine go_top (pc_pre w os) (piece_block (pc_block w os) ?_)
  rw [bE_is]
  exact piece_app (pc_p6 w os) (piece_app (pc_p7 w os) (piece_app (pc_p14 w os) (piece_app (pc_p15 w os) (piece_app (pc_p27 w os) (pc_fin w os)))))
theorem pc_open : ∀ w : World, (fencedOpening treeTable P0 w 5688).map (fun s => (s.heap, s.gens, s.drawn, s.toks)) = some (boot_heap w.params, Array.mk [], boot_drawn, boot_toks) :=
  boot_open (by kernel_rfl) (by kernel_rfl) (fun s => by kernel_rfl)
theorem pc_size (w : World) : ((boot_heap w.params).isNs mainGlobals && (Array.mk [] : Array GenState).size == 0, (boot_heap w.params).objs.size, (boot_heap w.params).nsMap mainGlobals "__annotations__") = (true, 11, annT) := by kernel_rfl
theorem pc_looks (w : World) : (fun os => ((staticsOk (importedModules P0.main.body) (boot_heap w.params) (hp27 w.params) && namesBound P0 (hp27 w.params) && gensDone (shOf hp27 689 w os) && laidKept (boot_heap w.params) (hp27 w.params)),
    openSeen q0 loose0 (importedModules P0.main.body) (fun _ => true) true (shOf hp27 689 w os), Hook.obs HK (shOf hp27 689 w os))) = fun _ => (true, openGood q0 loose0, Hook.val HK w) := by kernel_rfl
theorem left0 : LeftO P0 q0 loose0 (fun _ => true) (Hook.obs HK) (Hook.val HK) 5688 :=
  LeftO.of_pieces (H₁ := hp27) (gs₁ := #[]) (d₁ := {}) (k₁ := 689) pc_open pc_size pc_run (by kernel_rfl) pc_looks
end SH1
section SM1
/-! the one lambda -/
noncomputable def lamE : Expr := (callA (ifxB (lcE (asgE ((dBody (inClass 15 12)).getD 1 noStmt))))).getD 1 noExpr
noncomputable def lamPars : Arguments := (lamAll lamE).1
noncomputable def lamBody : Expr := (lamAll lamE).2.1
noncomputable def lamScope : Scope := (lamAll lamE).2.2.1
noncomputable def lamPos : Pos := (lamAll lamE).2.2.2
noncomputable abbrev lamQual : PySem.Str := ("Writer.code" : PySem.Str) ++ ".<locals>." ++ "<lambda>"
/-! the abstract values and objects -/
inductive AV where
  | none
  | bool (b : Bool)
  | int (i : Int)
  | str (x : PySem.Str)
  | tup (vs : List AV)
  | loc (i : Nat)
  | glob (v : Value)

inductive AO where
  | list (vs : List AV)
  | idict (es : List (PySem.Str × AV))
  | dict (es : List (PySem.Str × AV))
  | inst (C : Addr) (d : Nat)
  | cell (v : Option AV)
  | ns (m : List (PySem.Str × AV))
  | lit (l : Nat) (i : Nat)
  | rng (n : Int)
  | rit (cur left : Int)
  | raw (o : Obj)
  | zip (w : AV) (to : Nat)
  | own
  | sit (x : PySem.Str) (i : Nat)
  | tit (vs : List AV) (i : Nat)
  | exc (t d : Option Nat)
  | tb
  | tab (t : Option Nat)
  | code (q : PySem.Str)
  | lam (i : Nat)
  | meth (f : Addr) (i : Nat)
  | dead

noncomputable def AO.live : AO → Bool
  | .dead => false
  | _ => true

structure Wd where
  as : List Addr
  T : List (Addr × Obj)

structure Wd.le (ω ω' : Wd) : Prop where
  pre : ω.as <+: ω'.as
  sub : ∀ p ∈ ω.T, p ∈ ω'.T
theorem Wd.le.refl (ω : Wd) : ω.le ω := ⟨List.prefix_rfl, fun _ h => h⟩
theorem Wd.le.trans {a b c : Wd} (x : a.le b) (y : b.le c) : a.le c := ⟨x.pre.trans y.pre, fun p h => y.sub p (x.sub p h)⟩
theorem Wd.le.at {ω ω' : Wd} (x : ω.le ω') {i : Nat} {a : Addr} (h : ω.as[i]? = some a) : ω'.as[i]? = some a := by
  obtain ⟨t, ht⟩ := x.pre
  rw [← ht, List.getElem?_append_left (List.getElem?_eq_some_iff.mp h).1]; exact h

noncomputable abbrev tupO (ws : List Value) (n : Nat) : Obj := { cls := .type "tuple", data := .seq ws.toArray n }

mutual
inductive VR (K : Frag) (ω : Wd) : AV → Value → Prop where
  | none : VR K ω .none .none
  | bool (b : Bool) : VR K ω (.bool b) (.bool b)
  | int (i : Int) (t : Tok) : VR K ω (.int i) (.int i t)
  | str (x : PySem.Str) (t : Tok) : VR K ω (.str x) (.str x t)
  | tup {vs : List AV} {ws : List Value} {a : Addr} {n : Nat} : (a, tupO ws n) ∈ ω.T → VRs K ω vs ws → VR K ω (.tup vs) (.ref a)
  | tupK {vs : List AV} {ws : List Value} {a : Addr} {n : Nat} : K.lookup a = some (tupO ws n) → VRs K ω vs ws → VR K ω (.tup vs) (.ref a)
  | loc {i : Nat} {a : Addr} : ω.as[i]? = some a → VR K ω (.loc i) (.ref a)
  | glob (v : Value) : VR K ω (.glob v) v
inductive VRs (K : Frag) (ω : Wd) : List AV → List Value → Prop where
  | nil : VRs K ω [] []
  | cons {v : AV} {vs : List AV} {x : Value} {ws : List Value} : VR K ω v x → VRs K ω vs ws → VRs K ω (v :: vs) (x :: ws)
end

theorem VR.mono {K : Frag} {ω ω' : Wd} (hl : ω.le ω') {v : AV} {x : Value} (h : VR K ω v x) : VR K ω' v x :=
  VR.rec (motive_1 := fun v x _ => VR K ω' v x) (motive_2 := fun vs ws _ => VRs K ω' vs ws) .none (fun b => .bool b) (fun i t => .int i t) (fun x t => .str x t) (fun h _ ih => .tup (hl.sub _ h) ih) (fun h _ ih => .tupK h ih)
    (fun h => .loc (hl.at h)) (fun v => .glob v) .nil (fun _ _ i1 i2 => .cons i1 i2) h
theorem VRs.ind {K : Frag} {ω : Wd} {P : List AV → List Value → Prop} (h0 : P [] []) (h1 : ∀ {v : AV} {vs : List AV} {x : Value} {ws : List Value}, VR K ω v x → VRs K ω vs ws → P vs ws → P (v :: vs) (x :: ws)) {vs : List AV} {ws : List Value} (h : VRs K ω vs ws) : P vs ws :=
  VRs.rec (motive_1 := fun _ _ _ => True) (motive_2 := fun vs ws _ => P vs ws) trivial (fun _ => trivial) (fun _ _ => trivial) (fun _ _ => trivial) (fun _ _ _ => trivial) (fun _ _ _ => trivial) (fun _ => trivial) (fun _ => trivial) h0 (fun h r _ ih => h1 h r ih) h
theorem VRs.mono {K : Frag} {ω ω' : Wd} (hl : ω.le ω') {vs : List AV} {ws : List Value} (h : VRs K ω vs ws) : VRs K ω' vs ws := h.ind .nil fun h _ ih => .cons (h.mono hl) ih

section
variable {K : Frag} {ω : Wd}
theorem VRs.length {vs : List AV} {ws : List Value} (h : VRs K ω vs ws) : ws.length = vs.length := h.ind (P := fun vs ws => ws.length = vs.length) rfl fun _ _ ih => congrArg (· + 1) ih
theorem VRs.append {vs' : List AV} {ws' : List Value} (h' : VRs K ω vs' ws') {vs : List AV} {ws : List Value} (h : VRs K ω vs ws) : VRs K ω (vs ++ vs') (ws ++ ws') :=
  h.ind (P := fun vs ws => VRs K ω (vs ++ vs') (ws ++ ws')) h' fun h _ ih => .cons h ih
theorem VRs.get {vs : List AV} {ws : List Value} (h : VRs K ω vs ws) {i : Nat} {v : AV} (e : vs[i]? = some v) : ∃ x, ws[i]? = some x ∧ VR K ω v x :=
  h.ind (P := fun vs ws => ∀ (i : Nat) (v : AV), vs[i]? = some v → ∃ x, ws[i]? = some x ∧ VR K ω v x) (fun i v e => by rw [List.getElem?_nil] at e; cases e) (fun {v vs x ws} h _ ih i u e => by
    cases i with
    | zero => exact ⟨x, rfl, (Option.some.inj e : v = u) ▸ h⟩
    | succ i => exact ih i u e) i v e
theorem VRs.set {v : AV} {x : Value} (hv : VR K ω v x) {vs : List AV} {ws : List Value} (h : VRs K ω vs ws) (i : Nat) : VRs K ω (vs.set i v) (ws.set i x) :=
  h.ind (P := fun vs ws => ∀ (i : Nat), VRs K ω (vs.set i v) (ws.set i x)) (fun _ => .nil) (fun h r ih i => by
    cases i with
    | zero => exact .cons hv r
    | succ i => exact .cons h (ih i)) i
theorem VRs.drop {vs : List AV} {ws : List Value} (h : VRs K ω vs ws) (i : Nat) : VRs K ω (vs.drop i) (ws.drop i) :=
  h.ind (P := fun vs ws => ∀ (i : Nat), VRs K ω (vs.drop i) (ws.drop i)) (fun i => by cases i <;> exact .nil) (fun h r ih i => by
    cases i with
    | zero => exact .cons h r
    | succ i => exact ih i) i
theorem VRs.take {vs : List AV} {ws : List Value} (h : VRs K ω vs ws) (i : Nat) : VRs K ω (vs.take i) (ws.take i) :=
  h.ind (P := fun vs ws => ∀ (i : Nat), VRs K ω (vs.take i) (ws.take i)) (fun i => by cases i <;> exact .nil) (fun h r ih i => by
    cases i with
    | zero => exact .nil
    | succ i => exact .cons h (ih i)) i
theorem VRs.one {v : AV} {ws : List Value} (h : VRs K ω [v] ws) : ∃ x, ws = [x] ∧ VR K ω v x := by
  cases h with | cons h r => cases r; exact ⟨_, rfl, h⟩
theorem VRs.two {v v' : AV} {ws : List Value} (h : VRs K ω [v, v'] ws) : ∃ x y, ws = [x, y] ∧ VR K ω v x ∧ VR K ω v' y := by
  cases h with | cons h r => obtain ⟨y, rfl, h'⟩ := r.one; exact ⟨_, y, rfl, h, h'⟩
end

/-! names and entries -/
noncomputable def lk (x : PySem.Str) : List (PySem.Str × AV) → Option AV
  | [] => none
  | (y, v) :: r => if x = y then some v else lk x r
noncomputable def put (x : PySem.Str) (v : AV) : List (PySem.Str × AV) → List (PySem.Str × AV)
  | [] => [(x, v)]
  | (y, u) :: r => if x = y then (y, v) :: r else (y, u) :: put x v r

inductive EnR (P : Params) (K : Frag) (ω : Wd) : List (PySem.Str × AV) → List DictEntry → Prop where
  | nil : EnR P K ω [] []
  | cons {k : PySem.Str} {t : Tok} {v : AV} {x : Value} {es : List (PySem.Str × AV)} {ds : List DictEntry} : VR K ω v x → EnR P K ω es ds → EnR P K ω ((k, v) :: es) (⟨PyData.keyHash P k, .str k t, x⟩ :: ds)
theorem EnR.mono {P : Params} {K : Frag} {ω ω' : Wd} (hl : ω.le ω') {es : List (PySem.Str × AV)} {ds : List DictEntry} (h : EnR P K ω es ds) : EnR P K ω' es ds := by
  induction h with
  | nil => exact .nil
  | cons h r ih => exact .cons (h.mono hl) ih

/-- what an abstract object says of an object -/
inductive KvR (K : Frag) (ω : Wd) : List (PySem.Str × AV) → List (PySem.Str × Value) → Prop where
  | nil : KvR K ω [] []
  | cons {k : PySem.Str} {v : AV} {x : Value} {es : List (PySem.Str × AV)} {kvs : List (PySem.Str × Value)} : VR K ω v x → KvR K ω es kvs → KvR K ω ((k, v) :: es) ((k, x) :: kvs)
theorem KvR.mono {K : Frag} {ω ω' : Wd} (hl : ω.le ω') {es : List (PySem.Str × AV)} {ds : List (PySem.Str × Value)} (h : KvR K ω es ds) : KvR K ω' es ds := by
  induction h with
  | nil => exact .nil
  | cons h r ih => exact .cons (h.mono hl) ih

inductive OR (W : World) (K : Frag) (ω : Wd) : AO → Obj → Prop where
  | list {vs : List AV} {ws : List Value} {n : Nat} : VRs K ω vs ws → OR W K ω (.list vs) (listOf ws.toArray n)
  | idict {es : List (PySem.Str × AV)} {ds : List DictEntry} {n : Nat} : EnR W.params K ω es ds → OR W K ω (.idict es) (dictOf ds n)
  | dict {es : List (PySem.Str × AV)} {kvs : List (PySem.Str × Value)} {o : Obj} : KvR K ω es kvs → Obj.IsDictOf (strKind P0 W) o kvs → OR W K ω (.dict es) o
  | inst {C : Addr} {d : Nat} {a : Addr} : ω.as[d]? = some a → OR W K ω (.inst C d) (instObj C a)
  | cell {v : AV} {x : Value} {o : Obj} : o.data = .cell (some x) → VR K ω v x → OR W K ω (.cell (some v)) o
  | cell0 {o : Obj} : o.data = .cell none → OR W K ω (.cell none) o
  | ns {m : List (PySem.Str × AV)} {M : PySem.Str → Option Value} {o : Obj} {es : Array DictEntry} {n : Nat} : o.data = .dict es n → (∀ e ∈ es, ∃ s t, e.key = .str s t) → nsFind es = M →
      (∀ x v, lk x m = some v → ∃ v', M x = some v' ∧ VR K ω v v') → OR W K ω (.ns m) o
  | lit {l i : Nat} {a : Addr} {o : Obj} : ω.as[l]? = some a → o.cls = .type "list_iterator" → o.data = .fields #[.ref a, .int i 0] → OR W K ω (.lit l i) o
  | rng {k : Int} {t u v : Tok} : OR W K ω (.rng k) { cls := .type "range", dict := none, data := .fields #[.int 0 t, .int k u, .int 1 v], slots := #[] }
  | rit {cur left : Int} {o : Obj} : o = itR cur left → OR W K ω (.rit cur left) o
  | raw {o : Obj} : o.isFreed = false → OR W K ω (.raw o) o
  | zip {w : AV} {to : Nat} {x : Value} {a : Addr} : VR K ω w x → ω.as[to]? = some a → OR W K ω (.zip w to) { cls := .type "zip", dict := none, data := .fields #[.none, .bool false, .bool false, x, .ref a], slots := #[] }
  | own {u v : Value} : OR W K ω .own { cls := .type "tuple", data := .seq #[u, v] }
  | sit {x : PySem.Str} {t : Tok} {i : Nat} {o : Obj} : o.cls = .type "str_ascii_iterator" → o.data = .fields #[.str x t, .int i 0] → OR W K ω (.sit x i) o
  | tit {vs : List AV} {x : Value} {i : Nat} {o : Obj} : VR K ω (.tup vs) x → o.cls = .type "tuple_iterator" → o.data = .fields #[x, .int i 0] → OR W K ω (.tit vs i) o
  | exc {t d : Option Nat} {vs : Array Value} {o : Obj} : o.cls = .ref 52 → o.data = .fields vs → 5 < vs.size → (∀ i, t = some i → ∃ a, ω.as[i]? = some a ∧ vs[1]? = some (.ref a)) → (t = none → vs[1]? = some .none) →
      (∀ i, d = some i → ∃ a, ω.as[i]? = some a ∧ o.dict = some a) → (d = none → o.dict = none) → OR W K ω (.exc t d) o
  | tb {o : Obj} {ts : Array Value} : o.data = .fields ts → 3 < ts.size → OR W K ω .tb o
  | tab0 : OR W K ω (.tab none) (tabObj #[])
  | tab1 {i : Nat} {a : Addr} : ω.as[i]? = some a → OR W K ω (.tab (some i)) (tabObj #[rawInt lamPos.line, rawInt lamPos.col, .ref a])
  | code {q : PySem.Str} {o : Obj} {vs : Array Value} {t : Tok} : o.data = .fields vs → vs[1]? = some (.str q t) → OR W K ω (.code q) o
  | lam {i : Nat} {a : Addr} {pm ctv : Value} : ω.as[i]? = some a → OR W K ω (.lam i) (kla_obj "<lambda>" lamQual lamPars lamBody lamScope [] pm a ctv)
  | meth {f : Addr} {i : Nat} {a : Addr} : ω.as[i]? = some a → OR W K ω (.meth f i) (methodObj (.ref f) (.ref a))
  | dead {o : Obj} : OR W K ω .dead o
/-- what a value's relation says, read off -/
noncomputable def VRm (K : Frag) (ω : Wd) : AV → Value → Prop
  | .none, x => x = .none
  | .bool b, x => x = .bool b
  | .int i, x => ∃ t, x = .int i t
  | .str s, x => ∃ t, x = .str s t
  | .tup vs, x => ∃ ws a n, x = .ref a ∧ ((a, tupO ws n) ∈ ω.T ∨ K.lookup a = some (tupO ws n)) ∧ VRs K ω vs ws
  | .loc i, x => ∃ a, x = .ref a ∧ ω.as[i]? = some a
  | .glob v, x => x = v
theorem VR.m {K : Frag} {ω : Wd} {v : AV} {x : Value} (h : VR K ω v x) : VRm K ω v x := by
  cases h with
  | none => exact rfl
  | bool => exact rfl
  | int => exact ⟨_, rfl⟩
  | str => exact ⟨_, rfl⟩
  | tup h r => exact ⟨_, _, _, rfl, .inl h, r⟩
  | tupK h r => exact ⟨_, _, _, rfl, .inr h, r⟩
  | loc h => exact ⟨_, rfl, h⟩
  | glob => exact rfl
/-- what an object's relation says, read off -/
noncomputable def ORm (W : World) (K : Frag) (ω : Wd) : AO → Obj → Prop
  | .list vs, o => ∃ ws n, o = listOf ws.toArray n ∧ VRs K ω vs ws
  | .idict es, o => ∃ ds n, o = dictOf ds n ∧ EnR W.params K ω es ds
  | .dict es, o => ∃ kvs, KvR K ω es kvs ∧ Obj.IsDictOf (strKind P0 W) o kvs
  | .inst C d, o => ∃ a, ω.as[d]? = some a ∧ o = instObj C a
  | .cell v, o => match v with
    | some v => ∃ x, o.data = .cell (some x) ∧ VR K ω v x
    | none => o.data = .cell none
  | .ns m, o => ∃ (M : PySem.Str → Option Value) (es : Array DictEntry) (n : Nat), o.data = .dict es n ∧ (∀ e ∈ es, ∃ s t, e.key = .str s t) ∧ nsFind es = M ∧ (∀ x v, lk x m = some v → ∃ v', M x = some v' ∧ VR K ω v v')
  | .lit l i, o => ∃ a, ω.as[l]? = some a ∧ o.cls = .type "list_iterator" ∧ o.data = .fields #[.ref a, .int i 0]
  | .rng k, o => ∃ t u v, o = { cls := .type "range", dict := none, data := .fields #[.int 0 t, .int k u, .int 1 v], slots := #[] }
  | .rit cur left, o => o = itR cur left
  | .raw o', o => o = o' ∧ o.isFreed = false
  | .zip w to, o => ∃ x a, VR K ω w x ∧ ω.as[to]? = some a ∧ o = { cls := .type "zip", dict := none, data := .fields #[.none, .bool false, .bool false, x, .ref a], slots := #[] }
  | .own, o => ∃ u v, o = { cls := .type "tuple", data := .seq #[u, v] }
  | .sit x i, o => ∃ t, o.cls = .type "str_ascii_iterator" ∧ o.data = .fields #[.str x t, .int i 0]
  | .tit vs i, o => ∃ x, VR K ω (.tup vs) x ∧ o.cls = .type "tuple_iterator" ∧ o.data = .fields #[x, .int i 0]
  | .exc t d, o => ∃ vs, o.cls = .ref 52 ∧ o.data = .fields vs ∧ 5 < vs.size ∧ (∀ i, t = some i → ∃ a, ω.as[i]? = some a ∧ vs[1]? = some (.ref a)) ∧ (t = none → vs[1]? = some .none) ∧
      (∀ i, d = some i → ∃ a, ω.as[i]? = some a ∧ o.dict = some a) ∧ (d = none → o.dict = none)
  | .tb, o => ∃ ts, o.data = .fields ts ∧ 3 < ts.size
  | .tab t, o => match t with
    | none => o = tabObj #[]
    | some i => ∃ a, ω.as[i]? = some a ∧ o = tabObj #[rawInt lamPos.line, rawInt lamPos.col, .ref a]
  | .code q, o => ∃ vs t, o.data = .fields vs ∧ vs[1]? = some (.str q t)
  | .lam i, o => ∃ a pm ctv, ω.as[i]? = some a ∧ o = kla_obj "<lambda>" lamQual lamPars lamBody lamScope [] pm a ctv
  | .meth f i, o => ∃ a, ω.as[i]? = some a ∧ o = methodObj (.ref f) (.ref a)
  | .dead, _ => True
theorem OR.m {W : World} {K : Frag} {ω : Wd} {x : AO} {o : Obj} (h : OR W K ω x o) : ORm W K ω x o := by
  cases h with
  | list h => exact ⟨_, _, rfl, h⟩
  | idict h => exact ⟨_, _, rfl, h⟩
  | dict h1 h2 => exact ⟨_, h1, h2⟩
  | inst h => exact ⟨_, h, rfl⟩
  | cell h1 h2 => exact ⟨_, h1, h2⟩
  | cell0 h => exact h
  | ns h1 h2 h3 h4 => exact ⟨_, _, _, h1, h2, h3, h4⟩
  | lit h1 h2 h3 => exact ⟨_, h1, h2, h3⟩
  | rng => exact ⟨_, _, _, rfl⟩
  | rit h => exact h
  | raw h => exact ⟨rfl, h⟩
  | zip h1 h2 => exact ⟨_, _, h1, h2, rfl⟩
  | own => exact ⟨_, _, rfl⟩
  | sit h1 h2 => exact ⟨_, h1, h2⟩
  | tit h1 h2 h3 => exact ⟨_, h1, h2, h3⟩
  | exc h1 h2 h3 h4 h5 h6 h7 => exact ⟨_, h1, h2, h3, h4, h5, h6, h7⟩
  | tb h1 h2 => exact ⟨_, h1, h2⟩
  | tab0 => exact rfl
  | tab1 h => exact ⟨_, h, rfl⟩
  | code h1 h2 => exact ⟨_, _, h1, h2⟩
  | lam h => exact ⟨_, _, _, h, rfl⟩
  | meth h => exact ⟨_, h, rfl⟩
  | dead => exact trivial
end SM1
section SM2
structure Blk where
  sc : Scope
  l : Nat
  cells : List (PySem.Str × Nat)

/-- what is known of a frame by its text -/
structure Cx where
  k : Nat
  cn : PySem.Str
  cs : Scope
  a : Addr
  ccd : Value
  cells : List (PySem.Str × Nat)
  blk : Option Blk

/-- where a frame stands -/
structure Fm where
  A₀ : Around
  A : Around
  base : Heap
  outer : List Env
  h₀ : Heap
  L : Addr
  cl : List (PySem.Str × Addr)
  C : Addr
  bcl : List (PySem.Str × Addr)
  qual : PySem.Str
  bf : Option Addr

structure Gl where
  w : World
  mean : ExcName → Option Value
  mg : PySem.Str → Option Value
  mb : PySem.Str → Option Value
  pb : Heap → Prop
noncomputable abbrev Gl.P (G : Gl) : Params := G.w.params
noncomputable abbrev Gl.K (G : Gl) : Frag := KK G.w.params
noncomputable abbrev lo0 : List PySem.Str := looseW q0 loose0

noncomputable def ev (c : Cx) (F : Fm) : Env := match c.blk with
  | none => envX c.cn c.cs F.L c.a c.ccd F.cl
  | some b => { scope := b.sc, locals := F.C, globals := mainGlobals, cells := F.bcl, qual := c.cn ++ ".<locals>.", func := none, code := c.ccd, frame := some F.L, builtins := builtinsNs }

noncomputable def CelR (ω : Wd) : List (PySem.Str × Nat) → List (PySem.Str × Addr) → Prop
  | [], [] => True
  | (x, i) :: r, (y, a) :: q => x = y ∧ ω.as[i]? = some a ∧ CelR ω r q
  | _, _ => False
theorem CelR.mono {ω ω' : Wd} (hl : ω.le ω') : ∀ {l : List (PySem.Str × Nat)} {q : List (PySem.Str × Addr)}, CelR ω l q → CelR ω' l q
  | [], [], _ => trivial
  | (x, i) :: r, (y, a) :: q, h => ⟨h.1, hl.at h.2.1, CelR.mono hl h.2.2⟩
  | [], _ :: _, h => h.elim
  | _ :: _, [], h => h.elim
noncomputable def lkN (x : PySem.Str) : List (PySem.Str × Nat) → Option Nat
  | [] => none
  | (y, v) :: r => if x = y then some v else lkN x r
set_option linter.unusedSimpArgs false
theorem CelR.lookup {ω : Wd} {x : PySem.Str} {i : Nat} : ∀ {l : List (PySem.Str × Nat)} {q : List (PySem.Str × Addr)}, CelR ω l q → lkN x l = some i → ∃ a, q.lookup x = some a ∧ ω.as[i]? = some a
  | [], [], _, e => by cases e
  | (y, j) :: r, (z, a) :: q, h, e => by
    obtain ⟨rfl, h2, h3⟩ := h
    unfold lkN at e
    by_cases hx : x = y
    · rw [if_pos hx] at e
      cases e
      subst hx
      exact ⟨a, by simp [List.lookup_cons], h2⟩
    · rw [if_neg hx] at e
      obtain ⟨b, hb, hb'⟩ := CelR.lookup h3 e
      refine ⟨b, ?_, hb'⟩
      rw [List.lookup_cons]
      have : (x == y) = false := by simpa using hx
      rw [this]; exact hb
  | [], _ :: _, h, _ => h.elim
  | _ :: _, [], h, _ => h.elim

inductive ORs (W : World) (K : Frag) (ω : Wd) : List AO → List Obj → Prop where
  | nil : ORs W K ω [] []
  | cons {x : AO} {xs : List AO} {o : Obj} {os : List Obj} : OR W K ω x o → ORs W K ω xs os → ORs W K ω (x :: xs) (o :: os)

section
variable {W : World} {K : Frag} {ω ω' : Wd}
theorem OR.mono (hl : ω.le ω') {x : AO} {o : Obj} (h : OR W K ω x o) : OR W K ω' x o := by
  cases h with
  | list h => exact .list (h.mono hl)
  | idict h => exact .idict (h.mono hl)
  | dict h h2 => exact .dict (h.mono hl) h2
  | inst h => exact .inst (hl.at h)
  | cell h1 h2 => exact .cell h1 (h2.mono hl)
  | cell0 h => exact .cell0 h
  | ns h1 h2 h3 h4 => exact .ns h1 h2 h3 fun x v e => let ⟨v', a, b⟩ := h4 x v e; ⟨v', a, b.mono hl⟩
  | lit h1 h2 h3 => exact .lit (hl.at h1) h2 h3
  | rng => exact .rng
  | rit h => exact .rit h
  | raw h => exact .raw h
  | zip h1 h2 => exact .zip (h1.mono hl) (hl.at h2)
  | own => exact .own
  | sit h1 h2 => exact .sit h1 h2
  | tit h1 h2 h3 => exact .tit (h1.mono hl) h2 h3
  | exc h1 h2 h3 h4 h5 h6 h7 => exact .exc h1 h2 h3 (fun i e => let ⟨a, p, q⟩ := h4 i e; ⟨a, hl.at p, q⟩) h5 (fun i e => let ⟨a, p, q⟩ := h6 i e; ⟨a, hl.at p, q⟩) h7
  | tb h1 h2 => exact .tb h1 h2
  | tab0 => exact .tab0
  | tab1 h => exact .tab1 (hl.at h)
  | code h1 h2 => exact .code h1 h2
  | lam h => exact .lam (hl.at h)
  | meth h => exact .meth (hl.at h)
  | dead => exact .dead
theorem ORs.mono (hl : ω.le ω') {xs : List AO} {os : List Obj} (h : ORs W K ω xs os) : ORs W K ω' xs os := by
  induction h with
  | nil => exact .nil
  | cons h r ih => exact .cons (h.mono hl) ih
theorem ORs.length {xs : List AO} {os : List Obj} (h : ORs W K ω xs os) : os.length = xs.length := by
  induction h with
  | nil => rfl
  | cons h r ih => exact congrArg (· + 1) ih
theorem ORs.get {xs : List AO} {os : List Obj} (h : ORs W K ω xs os) {i : Nat} {x : AO} (e : xs[i]? = some x) : ∃ o, os[i]? = some o ∧ OR W K ω x o := by
  induction h generalizing i with
  | nil => rw [List.getElem?_nil] at e; cases e
  | @cons y xs o os h r ih =>
    cases i with
    | zero => exact ⟨o, rfl, (Option.some.inj e : y = x) ▸ h⟩
    | succ i => exact ih e
theorem ORs.set {x : AO} {o : Obj} (hv : OR W K ω x o) {xs : List AO} {os : List Obj} (h : ORs W K ω xs os) (i : Nat) : ORs W K ω (xs.set i x) (os.set i o) := by
  induction h generalizing i with
  | nil => exact .nil
  | cons h r ih =>
    cases i with
    | zero => exact .cons hv r
    | succ i => exact .cons h (ih i)
theorem ORs.snoc {x : AO} {o : Obj} (hv : OR W K ω x o) {xs : List AO} {os : List Obj} (h : ORs W K ω xs os) : ORs W K ω (xs ++ [x]) (os ++ [o]) := by
  induction h with
  | nil => exact .cons hv .nil
  | cons h r ih => exact .cons h ih
end

/-- the addresses, the objects that stand -/
noncomputable def la : List AO → List Addr → List Addr
  | x :: xs, a :: as => if x.live = true then a :: la xs as else la xs as
  | _, _ => []
noncomputable def lv : List AO → List Addr → List Obj → List (Addr × Obj)
  | x :: xs, a :: as, o :: os => if x.live = true then (a, o) :: lv xs as os else lv xs as os
  | _, _, _ => []
theorem mem_lv {p : Addr × Obj} : ∀ {xs : List AO} {as : List Addr} {os : List Obj}, p ∈ lv xs as os ↔ ∃ (i : Nat) (x : AO), xs[i]? = some x ∧ x.live = true ∧ as[i]? = some p.1 ∧ os[i]? = some p.2
  | [], _, _ => by simp [lv]
  | _ :: _, [], _ => by simp [lv]
  | _ :: _, _ :: _, [] => by simp [lv]
  | x :: xs, a :: as, o :: os => by
    unfold lv
    constructor
    · intro h
      by_cases q : x.live = true
      · rw [if_pos q] at h
        rcases List.mem_cons.mp h with rfl | h
        · exact ⟨0, x, rfl, q, rfl, rfl⟩
        · obtain ⟨i, y, h1, h2, h3, h4⟩ := mem_lv.mp h
          exact ⟨i + 1, y, by simpa using h1, h2, by simpa using h3, by simpa using h4⟩
      · rw [if_neg q] at h
        obtain ⟨i, y, h1, h2, h3, h4⟩ := mem_lv.mp h
        exact ⟨i + 1, y, by simpa using h1, h2, by simpa using h3, by simpa using h4⟩
    · rintro ⟨i, y, h1, h2, h3, h4⟩
      cases i with
      | zero =>
        simp at h1 h3 h4
        subst h1
        rw [if_pos h2]
        exact List.mem_cons.mpr (.inl (by cases p; simp_all))
      | succ i =>
        simp at h1 h3 h4
        have := mem_lv.mpr ⟨i, y, h1, h2, h3, h4⟩
        split
        · exact .tail _ this
        · exact this
theorem mem_la {a : Addr} : ∀ {xs : List AO} {as : List Addr}, a ∈ la xs as ↔ ∃ (i : Nat) (x : AO), xs[i]? = some x ∧ x.live = true ∧ as[i]? = some a
  | [], _ => by simp [la]
  | _ :: _, [] => by simp [la]
  | x :: xs, b :: as => by
    unfold la
    constructor
    · intro h
      by_cases q : x.live = true
      · rw [if_pos q] at h
        rcases List.mem_cons.mp h with rfl | h
        · exact ⟨0, x, rfl, q, rfl⟩
        · obtain ⟨i, y, h1, h2, h3⟩ := mem_la.mp h
          exact ⟨i + 1, y, by simpa using h1, h2, by simpa using h3⟩
      · rw [if_neg q] at h
        obtain ⟨i, y, h1, h2, h3⟩ := mem_la.mp h
        exact ⟨i + 1, y, by simpa using h1, h2, by simpa using h3⟩
    · rintro ⟨i, y, h1, h2, h3⟩
      cases i with
      | zero =>
        simp at h1 h3
        subst h1
        rw [if_pos h2]
        exact List.mem_cons.mpr (.inl h3.symm)
      | succ i =>
        simp at h1 h3
        have := mem_la.mpr ⟨i, y, h1, h2, h3⟩
        split
        · exact .tail _ this
        · exact this
theorem la_set {y : AO} : ∀ {xs : List AO} {as : List Addr} {i : Nat} {x : AO}, xs[i]? = some x → (x.live = true ∨ y.live = false) → (la (xs.set i y) as).Sublist (la xs as)
  | [], _, _, _, e, _ => by simp at e
  | z :: xs, [], i, x, e, _ => by cases i <;> simp [la]
  | z :: xs, a :: as, 0, x, e, h => by
    simp at e; subst e
    simp only [List.set_cons_zero, la]
    rcases h with h | h
    · rw [if_pos h]
      split
      · exact .refl _
      · exact List.sublist_cons_self ..
    · rw [h]
      simp only [Bool.false_eq_true, if_false]
      split
      · exact List.sublist_cons_self ..
      · exact .refl _
  | z :: xs, a :: as, i + 1, x, e, h => by
    simp at e
    simp only [List.set_cons_succ, la]
    have := la_set (as := as) e h
    split
    · exact this.cons_cons _
    · exact this
theorem la_append {x : AO} {a : Addr} (hx : x.live = true) : ∀ {xs : List AO} {as : List Addr}, xs.length = as.length → la (xs ++ [x]) (as ++ [a]) = la xs as ++ [a]
  | [], [], _ => by simp [la, hx]
  | [], _ :: _, h => by simp at h
  | _ :: _, [], h => by simp at h
  | z :: xs, b :: as, h => by
    simp at h
    simp only [List.cons_append, la, la_append hx h]
    split <;> rfl
theorem la_inj : ∀ {xs : List AO} {as : List Addr}, (la xs as).Nodup → ∀ {i j : Nat} {x y : AO} {a : Addr}, xs[i]? = some x → x.live = true → as[i]? = some a → xs[j]? = some y → y.live = true → as[j]? = some a → i = j
  | [], _, _, i, _, _, _, _, e, _, _, _, _, _ => by simp at e
  | _ :: _, [], _, i, _, _, _, _, _, _, e, _, _, _ => by simp at e
  | z :: xs, b :: as, nd, i, j, x, y, a, h1, h2, h3, h4, h5, h6 => by
    cases i with
    | zero =>
      simp at h1 h3
      subst h1 h3
      cases j with
      | zero => rfl
      | succ j =>
        simp at h4 h6
        unfold la at nd
        rw [if_pos h2] at nd
        exact absurd (mem_la.mpr ⟨j, y, h4, h5, h6⟩) (List.nodup_cons.mp nd).1
    | succ i =>
      simp at h1 h3
      cases j with
      | zero =>
        simp at h4 h6
        subst h4 h6
        unfold la at nd
        rw [if_pos h5] at nd
        exact absurd (mem_la.mpr ⟨i, x, h1, h2, h3⟩) (List.nodup_cons.mp nd).1
      | succ j =>
        simp at h4 h6
        have nd' : (la xs as).Nodup := by
          unfold la at nd
          split at nd
          · exact (List.nodup_cons.mp nd).2
          · exact nd
        rw [la_inj nd' h1 h2 h3 h4 h5 h6]

/-- the first is the code table -/
noncomputable def AO.isTab : AO → Bool
  | .tab _ => true
  | _ => false
noncomputable def Tb (σ : List AO) : Prop := ∃ t, σ[0]? = some (.tab t)
theorem Tb.app {σ g : List AO} (h : Tb σ) : Tb (σ ++ g) := by
  obtain ⟨t, h0⟩ := h
  exact ⟨t, by rw [List.getElem?_append_left (List.getElem?_eq_some_iff.mp h0).1]; exact h0⟩
theorem Tb.set {σ : List AO} {i : Nat} {x y : AO} (h : Tb σ) (e : σ[i]? = some x) (hxy : x.isTab = y.isTab) : Tb (σ.set i y) := by
  obtain ⟨t, h0⟩ := h
  by_cases hi : i = 0
  · subst hi
    rw [h0] at e
    cases e
    cases y with
    | tab t' => exact ⟨t', by rw [List.getElem?_set_self (List.getElem?_eq_some_iff.mp h0).1]⟩
    | _ => cases hxy
  · exact ⟨t, by rw [List.getElem?_set_ne hi]; exact h0⟩
/-- the state of a frame -/
structure St (G : Gl) (c : Cx) (F : Fm) (ω : Wd) (m : List (PySem.Str × AV)) (σ : List AO) (h : Heap) : Prop where
  hA : F.A.frames = some (envX c.cn c.cs F.L c.a c.ccd F.cl :: F.outer)
  hH : F.A.handled = none
  hD : F.A.depth + 4 * c.k ≤ 900
  hU : F.A.units + 8 * c.k ≤ 9000
  hK : c.cs.kind = .function
  B : Below F.A₀ F.base F.outer F.h₀
  XB : G.K.In F.base
  PB : G.pb F.base
  TB : Top q0 lo0 G.mean G.mg G.mb F.base
  cel : CelR ω c.cells F.cl
  blk : ∀ b, c.blk = some b → b.sc.kind = .function ∧ ω.as[b.l]? = some F.C ∧ CelR ω b.cells F.bcl
  lo : ∃ M, Fr F.h₀ F.L h M ∧ ∀ x v, lk x m = some v → ∃ v', M x = some v' ∧ VR G.K ω v v'
  hp : ∃ os, News F.h₀ F.L h (lv σ ω.as os ++ ω.T) ∧ ω.as.length = os.length ∧ ORs G.w G.K ω σ os
  nd : (la σ ω.as ++ ω.T.map (·.1)).Nodup
  gt : (∀ a ∈ la σ ω.as, 200 < a) ∧ Tb σ
  t0 : ω.as[0]? = some 254

section
variable {G : Gl} {c : Cx} {F : Fm} {ω ω' : Wd} {m : List (PySem.Str × AV)} {σ : List AO} {h h' : Heap}

theorem St.X (S : St G c F ω m σ h) : G.K.In F.h₀ := S.XB.keeps S.B.stays
theorem St.T (S : St G c F ω m σ h) : Top q0 lo0 G.mean G.mg G.mb F.h₀ := S.TB.keeps S.B.stays
theorem St.len (S : St G c F ω m σ h) : ω.as.length = σ.length := by
  obtain ⟨os, _, e, r⟩ := S.hp
  rw [e, r.length]
theorem St.KIn (S : St G c F ω m σ h) : G.K.In h := by
  obtain ⟨M, Fh, _⟩ := S.lo
  exact S.X.keeps Fh.keep
theorem St.mem {os : List Obj} {i : Nat} {a : Addr} {o : Obj} {x : AO} (hx : σ[i]? = some x) (hl : x.live = true) (ha : ω.as[i]? = some a) (ho : os[i]? = some o) : (a, o) ∈ lv σ ω.as os ++ ω.T :=
  List.mem_append_left _ (mem_lv.mpr ⟨i, x, hx, hl, ha, ho⟩)
theorem St.at (S : St G c F ω m σ h) {i : Nat} {x : AO} (e : σ[i]? = some x) (hx : x.live = true) : ∃ a o, ω.as[i]? = some a ∧ h.get? a = some o ∧ OR G.w G.K ω x o ∧ a ≠ F.L ∧ F.h₀.get? a = none := by
  obtain ⟨os, N, hl, r⟩ := S.hp
  obtain ⟨o, ho, hr⟩ := r.get e
  have hi : i < ω.as.length := by rw [hl]; exact (List.getElem?_eq_some_iff.mp ho).1
  have ha : ω.as[i]? = some ω.as[i] := List.getElem?_eq_getElem hi
  have n := N _ (St.mem e hx ha ho)
  exact ⟨_, o, ha, n.1, hr, n.2.1, n.2.2⟩
theorem St.atL (S : St G c F ω m σ h) {i : Nat} {x : AO} {a : Addr} (e : σ[i]? = some x) (ha : ω.as[i]? = some a) (hx : x.live = true := by rfl) : ∃ o, h.get? a = some o ∧ OR G.w G.K ω x o := by
  obtain ⟨a', o, h1, h2, h3, _⟩ := S.at e hx
  rw [ha] at h1; cases h1
  exact ⟨o, h2, h3⟩
theorem St.atN (S : St G c F ω m σ h) {i : Nat} {x : AO} {a : Addr} (e : σ[i]? = some x) (ha : ω.as[i]? = some a) (hx : x.live = true := by rfl) : a ≠ F.L ∧ F.h₀.get? a = none := by
  obtain ⟨a', o, h1, h2, h3, h4⟩ := S.at e hx
  rw [ha] at h1; cases h1
  exact h4
theorem St.tAt (S : St G c F ω m σ h) {p : Addr × Obj} (hm : p ∈ ω.T) : h.get? p.1 = some p.2 := by
  obtain ⟨os, N, _, _⟩ := S.hp
  exact (N p (List.mem_append_right _ hm)).1
theorem St.inj (S : St G c F ω m σ h) {i j : Nat} {x y : AO} {a : Addr} (h1 : σ[i]? = some x) (hx : x.live = true) (h2 : ω.as[i]? = some a) (h3 : σ[j]? = some y) (hy : y.live = true) (h4 : ω.as[j]? = some a) : i = j :=
  la_inj (List.nodup_append.mp S.nd).1 h1 hx h2 h3 hy h4
theorem St.offT (S : St G c F ω m σ h) {i : Nat} {x : AO} {a : Addr} (h1 : σ[i]? = some x) (hx : x.live = true) (h2 : ω.as[i]? = some a) {p : Addr × Obj} (hp : p ∈ ω.T) : p.1 ≠ a := fun z =>
  (List.nodup_append.mp S.nd).2.2 a (mem_la.mpr ⟨i, x, h1, hx, h2⟩) p.1 (List.mem_map_of_mem hp) z.symm
theorem St.ndSet (S : St G c F ω m σ h) {i : Nat} {x y : AO} (e : σ[i]? = some x) (hxy : x.live = true ∨ y.live = false) (hxt : x.isTab = y.isTab) : (la (σ.set i y) ω.as ++ ω.T.map (·.1)).Nodup ∧ (∀ a ∈ la (σ.set i y) ω.as, 200 < a) ∧ Tb (σ.set i y) :=
  ⟨((la_set e hxy).append_right _).nodup S.nd, fun a ha => S.gt.1 a ((la_set e hxy).mem ha), S.gt.2.set e hxt⟩

/-- an object is stored into, or let go -/
theorem St.change (S : St G c F ω m σ h) {i : Nat} {x y : AO} {a : Addr} (e : σ[i]? = some x) (hx : x.live = true) (ha : ω.as[i]? = some a) (hk : ∀ b o, b ≠ a → h.get? b = some o → h'.get? b = some o) {o' : Obj} (ho : y.live = true → h'.get? a = some o') (r' : OR G.w G.K ω y o') (hxt : x.isTab = y.isTab := by rfl) :
    St G c F ω m (σ.set i y) h' := by
  obtain ⟨M, Fh, hM⟩ := S.lo
  obtain ⟨os, N, hl, r⟩ := S.hp
  obtain ⟨o, ho₀, _⟩ := r.get e
  have nn := N _ (St.mem e hx ha ho₀)
  obtain ⟨oL, es, ep, hL, rL⟩ := Fh.ns
  refine { S with lo := ⟨M, ⟨⟨oL, es, ep, hk _ _ (Ne.symm nn.2.1) hL, rL⟩, fun b ob q => hk b ob (fun z => ?_) (Fh.keep b ob q), Fh.above⟩, hM⟩, hp := ⟨os.set i o', fun p hp => ?_, by rw [List.length_set]; exact hl, r.set r' i⟩,
                  nd := (S.ndSet e (.inl hx) hxt).1, gt := (S.ndSet e (.inl hx) hxt).2 }
  · rw [z, nn.2.2] at q; cases q
  · rcases List.mem_append.mp hp with hp | hp
    · obtain ⟨j, z, jx, jl, ja, jo⟩ := mem_lv.mp hp
      by_cases hij : i = j
      · subst hij
        rw [ha] at ja
        have e1 : a = p.1 := Option.some.inj ja
        have e2 : o' = p.2 := by
          rw [List.getElem?_set_self (List.getElem?_eq_some_iff.mp ho₀).1] at jo
          exact Option.some.inj jo
        have e3 : z = y := by
          rw [List.getElem?_set_self (List.getElem?_eq_some_iff.mp e).1] at jx
          exact (Option.some.inj jx).symm
        rw [← e1, ← e2]
        exact ⟨ho (e3 ▸ jl), nn.2⟩
      · rw [List.getElem?_set_ne hij] at jo jx
        have n := N p (St.mem jx jl ja jo)
        exact ⟨hk p.1 _ (fun z => hij (S.inj e hx ha jx jl (z ▸ ja))) n.1, n.2⟩
    · have n := N p (List.mem_append_right _ hp)
      exact ⟨hk p.1 _ (S.offT e hx ha hp) n.1, n.2⟩
theorem St.upd (S : St G c F ω m σ h) {i : Nat} {x y : AO} {a : Addr} {o' : Obj} (e : σ[i]? = some x) (ha : ω.as[i]? = some a) (hs : Heap.SameBut a h h') (ho : h'.get? a = some o') (r' : OR G.w G.K ω y o') (hx : x.live = true := by rfl) (hxt : x.isTab = y.isTab := by rfl) :
    St G c F ω m (σ.set i y) h' := S.change e hx ha (fun b o hb q => (hs.2 b hb).trans q) (fun _ => ho) r' hxt
theorem St.kill (S : St G c F ω m σ h) {i : Nat} {x : AO} {a : Addr} (e : σ[i]? = some x) (ha : ω.as[i]? = some a) (hk : ∀ b o, b ≠ a → h.get? b = some o → h'.get? b = some o) (hx : x.live = true := by rfl) (hxt : x.isTab = false := by rfl) :
    St G c F ω m (σ.set i .dead) h' := S.change e hx ha hk (o' := { cls := .none, data := .plain }) (fun q => by cases q) .dead hxt

/-- the heap grows, nothing else -/
theorem St.grow (S : St G c F ω m σ h) (hk : ∀ b o, h.get? b = some o → h'.get? b = some o) : St G c F ω m σ h' := by
  obtain ⟨M, Fh, hM⟩ := S.lo
  obtain ⟨os, N, hl, r⟩ := S.hp
  exact { S with lo := ⟨M, Fh.keeps hk, hM⟩, hp := ⟨os, fun p hp => ⟨hk _ _ (N p hp).1, (N p hp).2⟩, hl, r⟩ }

theorem St.fresh (S : St G c F ω m σ h) {a : Addr} (hge : h.objs.size ≤ a) : a ∉ la σ ω.as ∧ a ∉ ω.T.map (·.1) ∧ a ≠ F.L ∧ F.h₀.get? a = none := by
  obtain ⟨M, Fh, hM⟩ := S.lo
  obtain ⟨os, N, hl, rr⟩ := S.hp
  refine ⟨fun q => ?_, fun q => ?_, fun q => ?_, ?_⟩
  · obtain ⟨i, x, hx, hlv, hi⟩ := mem_la.mp q
    have hlt : i < os.length := by rw [← hl]; exact (List.getElem?_eq_some_iff.mp hi).1
    have := Heap.lt_size (N _ (St.mem hx hlv hi (List.getElem?_eq_getElem hlt))).1
    exact Nat.lt_irrefl _ (Nat.lt_of_lt_of_le this hge)
  · obtain ⟨p, hp, rfl⟩ := List.mem_map.mp q
    have := Heap.lt_size (N p (List.mem_append_right _ hp)).1
    exact Nat.lt_irrefl _ (Nat.lt_of_lt_of_le this hge)
  · exact Nat.lt_irrefl _ (Nat.lt_of_lt_of_le Fh.ns.lt (q ▸ hge))
  · cases q : F.h₀.get? a with
    | none => rfl
    | some o => exact absurd (Heap.lt_size (Fh.keep _ _ q)) (Nat.not_lt.mpr hge)

noncomputable abbrev Wd.push (ω : Wd) (a : Addr) : Wd := ⟨ω.as ++ [a], ω.T⟩
noncomputable abbrev Wd.pushT (ω : Wd) (a : Addr) (o : Obj) : Wd := ⟨ω.as, (a, o) :: ω.T⟩
theorem Wd.le_push (ω : Wd) (a : Addr) : ω.le (ω.push a) := ⟨List.prefix_append _ _, fun _ h => h⟩
theorem Wd.le_pushT (ω : Wd) (a : Addr) (o : Obj) : ω.le (ω.pushT a o) := ⟨List.prefix_rfl, fun _ h => .tail _ h⟩

theorem St.wmono_parts (S : St G c F ω m σ h) (hl : ω.le ω') : CelR ω' c.cells F.cl ∧ (∀ b, c.blk = some b → b.sc.kind = .function ∧ ω'.as[b.l]? = some F.C ∧ CelR ω' b.cells F.bcl) ∧
    (∃ M, Fr F.h₀ F.L h M ∧ ∀ x v, lk x m = some v → ∃ v', M x = some v' ∧ VR G.K ω' v v') := by
  obtain ⟨M, Fh, hM⟩ := S.lo
  exact ⟨S.cel.mono hl, fun b hb => ⟨(S.blk b hb).1, hl.at (S.blk b hb).2.1, (S.blk b hb).2.2.mono hl⟩, M, Fh, fun x v e => let ⟨v', a, b⟩ := hM x v e; ⟨v', a, b.mono hl⟩⟩

theorem lv_append {x : AO} {a : Addr} {o : Obj} : ∀ {xs : List AO} {as : List Addr} {os : List Obj}, xs.length = as.length → as.length = os.length → ∀ p ∈ lv (xs ++ [x]) (as ++ [a]) (os ++ [o]), p ∈ lv xs as os ∨ p = (a, o)
  | [], [], [], _, _, p, hp => by
    simp only [List.nil_append, lv] at hp
    split at hp
    · exact .inr (List.mem_singleton.mp hp)
    · cases hp
  | [], _ :: _, _, h, _, _, _ => by simp at h
  | _ :: _, [], _, h, _, _, _ => by simp at h
  | [], [], _ :: _, _, h, _, _ => by simp at h
  | _ :: _, _ :: _, [], _, h, _, _ => by simp at h
  | z :: xs, b :: as, q :: os, h1, h2, p, hp => by
    simp at h1 h2
    simp only [List.cons_append, lv] at hp ⊢
    split at hp
    · rename_i hz
      rw [if_pos hz]
      rcases List.mem_cons.mp hp with h | h
      · exact .inl (h ▸ .head _)
      · exact (lv_append h1 h2 p h).imp (fun y => .tail _ y) id
    · rename_i hz
      rw [if_neg hz]
      exact lv_append h1 h2 p hp
/-- a new object that may change -/
theorem St.new (S : St G c F ω m σ h) {a : Addr} {o : Obj} {x : AO} (hk : ∀ b o, h.get? b = some o → h'.get? b = some o) (hge : h.objs.size ≤ a) (ho : h'.get? a = some o) (r : OR G.w G.K (ω.push a) x o) (hx : x.live = true := by rfl) :
    St G c F (ω.push a) m (σ ++ [x]) h' := by
  obtain ⟨f1, f2, f3, f4⟩ := S.fresh hge
  obtain ⟨p1, p2, p3⟩ := S.wmono_parts (ω.le_push a)
  obtain ⟨M, Fh, hM⟩ := p3
  have hlen := S.len
  obtain ⟨os, N, hl, rr⟩ := S.hp
  have hla : la (σ ++ [x]) (ω.as ++ [a]) = la σ ω.as ++ [a] := la_append hx hlen.symm
  refine { S with cel := p1, blk := p2, lo := ⟨M, Fh.keeps hk, hM⟩, hp := ⟨os ++ [o], fun p hp => ?_, by simp [hl], (rr.mono (ω.le_push a)).snoc r⟩, nd := ?_, gt := ⟨fun b hb => ?_, S.gt.2.app⟩, t0 := (ω.le_push a).at S.t0 }
  · rcases List.mem_append.mp hp with hp | hp
    · rcases lv_append hlen.symm hl p hp with hp | hp
      · have n := N p (List.mem_append_left _ hp)
        exact ⟨hk _ _ n.1, n.2⟩
      · rw [hp]
        exact ⟨ho, f3, f4⟩
    · have n := N p (List.mem_append_right _ hp)
      exact ⟨hk _ _ n.1, n.2⟩
  · have nd := S.nd
    show (la (σ ++ [x]) (ω.as ++ [a]) ++ ω.T.map (·.1)).Nodup
    rw [hla, List.append_assoc, List.singleton_append]
    rw [List.nodup_append] at nd ⊢
    refine ⟨nd.1, List.nodup_cons.mpr ⟨f2, nd.2.1⟩, fun b hb b' hb' => ?_⟩
    rcases List.mem_cons.mp hb' with e | hb'
    · rw [e]; exact fun z => f1 (z ▸ hb)
    · exact nd.2.2 b hb b' hb'
  · have hb' : b ∈ la σ ω.as ++ [a] := hla ▸ hb
    rcases List.mem_append.mp hb' with hb | hb
    · exact S.gt.1 b hb
    · rw [List.mem_singleton.mp hb]
      exact Nat.lt_trans (by decide) (Nat.lt_of_lt_of_le (Heap.lt_size (S.KIn 335 _ rfl)) hge)

/-- a new object that stays -/
theorem St.newT (S : St G c F ω m σ h) {a : Addr} {o : Obj} (hk : ∀ b o, h.get? b = some o → h'.get? b = some o) (hge : h.objs.size ≤ a) (ho : h'.get? a = some o) :
    St G c F (ω.pushT a o) m σ h' := by
  obtain ⟨f1, f2, f3, f4⟩ := S.fresh hge
  obtain ⟨p1, p2, p3⟩ := S.wmono_parts (ω.le_pushT a o)
  obtain ⟨M, Fh, hM⟩ := p3
  obtain ⟨os, N, hl, rr⟩ := S.hp
  refine { S with cel := p1, blk := p2, lo := ⟨M, Fh.keeps hk, hM⟩, hp := ⟨os, fun p hp => ?_, hl, rr.mono (ω.le_pushT a o)⟩, nd := ?_, t0 := (ω.le_pushT a o).at S.t0 }
  · rcases List.mem_append.mp hp with hp | hp
    · have n := N p (List.mem_append_left _ hp)
      exact ⟨hk _ _ n.1, n.2⟩
    · rcases List.mem_cons.mp hp with rfl | hp
      · exact ⟨ho, f3, f4⟩
      · have n := N p (List.mem_append_right _ hp)
        exact ⟨hk _ _ n.1, n.2⟩
  · have nd := S.nd
    rw [List.nodup_append] at nd
    show (la σ ω.as ++ a :: ω.T.map (·.1)).Nodup
    rw [List.nodup_append]
    refine ⟨nd.1, List.nodup_cons.mpr ⟨f2, nd.2.1⟩, fun b hb b' hb' => ?_⟩
    rcases List.mem_cons.mp hb' with e | hb'
    · rw [e]; exact fun z => f1 (z ▸ hb)
    · exact nd.2.2 b hb b' hb'
end
end SM2
section SM3
/-- what stands behind an operation -/
noncomputable def Po (G : Gl) (c : Cx) (F : Fm) (ω : Wd) (m : List (PySem.Str × AV)) (s : Shared) (v : AV) (σ' : List AO) (Q : Value → Shared → Prop) : Prop :=
  ∀ ω' v' h' tk', ω.le ω' → St G c F ω' m σ' h' → VR G.K ω' v v' → Q v' { s with heap := h', toks := tk' }

noncomputable def Ev (G : Gl) (c : Cx) (m : List (PySem.Str × AV)) (σ : List AO) (e : Expr) (v : AV) (σ' : List AO) : Prop :=
  ∀ F ω s, St G c F ω m σ s.heap → ∀ Q E, Po G c F ω m s v σ' Q → wpAny (model P0 G.w) F.A (eval e (ev c F)) Q E s
noncomputable def Op1 (G : Gl) (t : Value → Sem Value) (σ : List AO) (a : AV) (v : AV) (σ' : List AO) : Prop :=
  ∀ c F ω m s a', St G c F ω m σ s.heap → VR G.K ω a a' → ∀ Q E, Po G c F ω m s v σ' Q → wpAny (model P0 G.w) F.A (t a') Q E s
noncomputable def Op2 (G : Gl) (t : Value → Value → Sem Value) (σ : List AO) (a b : AV) (v : AV) (σ' : List AO) : Prop :=
  ∀ c F ω m s a' b', St G c F ω m σ s.heap → VR G.K ω a a' → VR G.K ω b b' → ∀ Q E, Po G c F ω m s v σ' Q → wpAny (model P0 G.w) F.A (t a' b') Q E s
/-- a call with n positional arguments, at slack k or more -/
noncomputable def Cl (G : Gl) (k : Nat) (f : Value) (args : List AV) (σ : List AO) (v : AV) (σ' : List AO) : Prop :=
  ∀ c F ω m s args', k ≤ c.k → St G c F ω m σ s.heap → VRs G.K ω args args' → ∀ Q E, Po G c F ω m s v σ' Q → wpAny (model P0 G.w) F.A (call f args') Q E s
noncomputable def Tru (G : Gl) (σ : List AO) (a : AV) (b : Bool) : Prop :=
  ∀ c F ω m s a', St G c F ω m σ s.heap → VR G.K ω a a' → ∀ (Q : Bool → Shared → Prop) E, (∀ tk', Q b { s with toks := tk' }) → wpAny (model P0 G.w) F.A (truthy a') Q E s
noncomputable def Tt (G : Gl) (c : Cx) (m : List (PySem.Str × AV)) (σ : List AO) (e : Expr) (b : Bool) (σ' : List AO) : Prop :=
  ∀ F ω s, St G c F ω m σ s.heap → ∀ (Q : Bool → Shared → Prop) E, (∀ ω' h' tk', ω.le ω' → St G c F ω' m σ' h' → Q b { s with heap := h', toks := tk' }) → wpAny (model P0 G.w) F.A (isTrue e (ev c F) (eval e (ev c F))) Q E s
/-- a comparison of one operator -/
noncomputable def Cm (G : Gl) (c : Cx) (m : List (PySem.Str × AV)) (σ : List AO) (l : Expr) (op : CmpOp) (r : Expr) (v : AV) (σ' : List AO) : Prop :=
  ∀ F ω s, St G c F ω m σ s.heap → ∀ Q E, Po G c F ω m s v σ' Q →
    wpAny (model P0 G.w) F.A (eval l (ev c F)) (fun a s₁ => wpAny (model P0 G.w) F.A (eval r (ev c F)) (fun b s₂ => wpAny (model P0 G.w) F.A (compareOp op a b) Q E s₂) E s₁) E s
noncomputable def Evs (G : Gl) (c : Cx) (m : List (PySem.Str × AV)) (σ : List AO) (es : List Expr) (vs : List AV) (σ' : List AO) : Prop :=
  ∀ F ω s pos, St G c F ω m σ s.heap → ∀ (Q : List Value → Shared → Prop) E, (∀ ω' ws h' tk', ω.le ω' → St G c F ω' m σ' h' → VRs G.K ω' vs ws → Q ws { s with heap := h', toks := tk' }) →
    wpAny (model P0 G.w) F.A (spliced (backTo pos (starEach es (ev c F)))) Q E s

section
variable {G : Gl} {c : Cx} {F : Fm} {ω ω' : Wd} {m : List (PySem.Str × AV)} {σ σ₁ σ₂ σ' : List AO} {e l r : Expr} {pos : Pos} {v a b : AV}

theorem Po.here {s : Shared} {Q : Value → Shared → Prop} (p : Po G c F ω m s v σ Q) (S : St G c F ω m σ s.heap) {v' : Value} (hv : VR G.K ω v v') : Q v' s := p ω v' s.heap s.toks (.refl ω) S hv
theorem Po.tok {s : Shared} {Q : Value → Shared → Prop} (p : Po G c F ω m s v σ Q) (S : St G c F ω m σ s.heap) {v' : Value} (hv : VR G.K ω v v') (tk : Nat) : Q v' { s with toks := tk } := p ω v' s.heap tk (.refl ω) S hv
theorem Po.on {s : Shared} {h₁ : Heap} {t₁ : Nat} {Q : Value → Shared → Prop} (p : Po G c F ω m s v σ' Q) (hl : ω.le ω') : Po G c F ω' m { s with heap := h₁, toks := t₁ } v σ' Q :=
  fun ω'' v' h' tk' h1 h2 h3 => p ω'' v' h' tk' (hl.trans h1) h2 h3

/-! constants -/
theorem ev_int {i : Int} {k : Nat} : Ev G c m σ (.Constant (.int i) k pos) (.int i) σ := fun F ω s S Q E p => wpAny_Constant_int (p.tok S (.int _ _) _)
theorem ev_str {x : PySem.Str} {k : Nat} : Ev G c m σ (.Constant (.str x) k pos) (.str x) σ := fun F ω s S Q E p => wpAny_Constant_str (p.tok S (.str _ _) _)
theorem ev_bool {x : Bool} {k : Nat} : Ev G c m σ (.Constant (.bool x) k pos) (.bool x) σ := fun F ω s S Q E p => wpAny_Constant_bool (p.here S (.bool _))
theorem ev_none {k : Nat} : Ev G c m σ (.Constant .none k pos) .none σ := fun F ω s S Q E p => wpAny_Constant_none (p.here S .none)

/-! names -/
theorem ev_local {x : PySem.Str} (hb : c.blk = none) (hx : c.cs.names.lookup x = some .local) (hv : lk x m = some v) (hd : (x == ("__debug__" : PySem.Str)) = false := by decide +kernel) :
    Ev G c m σ (.Name x pos) v σ := fun F ω s S Q E p => by
  obtain ⟨M, Fh, hM⟩ := S.lo
  obtain ⟨v', hv', hr⟩ := hM x v hv
  unfold ev; rw [hb]
  exact nameX_L Fh hv' (p.here S hr) S.hK hx hd
/-! operators -/
theorem ev_bin {op : Operator} (h1 : Ev G c m σ l a σ₁) (h2 : Ev G c m σ₁ r b σ₂) (h3 : Op2 G (binaryOp op) σ₂ a b v σ') : Ev G c m σ (.BinOp l op r pos) v σ' := fun F ω s S Q E p =>
  wpAny_BinOp (h1 F ω s S _ E fun ω₁ a' h₁ t₁ l1 S₁ ra => h2 F ω₁ _ S₁ _ E fun ω₂ b' h₂ t₂ l2 S₂ rb => h3 c F ω₂ m _ a' b' S₂ (ra.mono l2) rb Q E (p.on (l1.trans l2)))
theorem ev_un {op : UnaryOp} (h1 : Ev G c m σ e a σ₁) (h3 : Op1 G (unaryOp op) σ₁ a v σ') : Ev G c m σ (.UnaryOp op e pos) v σ' := fun F ω s S Q E p =>
  wpAny_UnaryOp (h1 F ω s S _ E fun ω₁ a' h₁ t₁ l1 S₁ ra => h3 c F ω₁ m _ a' S₁ ra Q E (p.on l1))
theorem cm_of {op : CmpOp} (h1 : Ev G c m σ l a σ₁) (h2 : Ev G c m σ₁ r b σ₂) (h3 : Op2 G (compareOp op) σ₂ a b v σ') : Cm G c m σ l op r v σ' := fun F ω s S Q E p =>
  h1 F ω s S _ E fun ω₁ a' h₁ t₁ l1 S₁ ra => h2 F ω₁ _ S₁ _ E fun ω₂ b' h₂ t₂ l2 S₂ rb => h3 c F ω₂ m _ a' b' S₂ (ra.mono l2) rb Q E (p.on (l1.trans l2))
theorem ev_cmp {op : CmpOp} (h : Cm G c m σ l op r v σ') (hm : behindInMarks op r = false := by with_unfolding_all rfl) : Ev G c m σ (.Compare l [op] [r] pos) v σ' := fun F ω s S Q E p =>
  wpAny_Compare1 (h F ω s S Q E p) hm
theorem tt_cmp {op : CmpOp} {x : Bool} (h : Cm G c m σ l op r (.bool x) σ') (hm : behindInMarks op r = false := by with_unfolding_all rfl) : Tt G c m σ (.Compare l [op] [r] pos) x σ' := fun F ω s S Q E p =>
  wpAny_isTrue_Compare1 (h F ω s S _ E fun ω' v' h' tk' h1 h2 h3 => by cases h3; exact wpAny_truthy_bool (p ω' h' tk' h1 h2)) hm
theorem tt_val {x : Bool} (h : Ev G c m σ e v σ') (ht : Tru G σ' v x) (he : ∀ env whole, isTrue e env whole = (do let v ← whole; standAt e.pos; holding [v] (truthy v))) : Tt G c m σ e x σ' := fun F ω s S Q E p =>
  wpAny_isTrue_value (h F ω s S _ E fun ω' v' h' tk' h1 h2 h3 => ht c F ω' m _ v' h2 h3 Q E fun tk => p ω' h' tk h1 h2) (he _ _)
theorem tt_not {x : Bool} (h : Tt G c m σ e x σ') : Tt G c m σ (.UnaryOp .Not e pos) (!x) σ' := fun F ω s S Q E p =>
  wpAny_isTrue_Not (h F ω s S _ E fun ω' h' tk' h1 h2 => p ω' h' tk' h1 h2)
theorem tru_bool {x : Bool} : Tru G σ (.bool x) x := fun c F ω m s a' S r Q E q => by cases r; exact wpAny_truthy_bool (q s.toks)

theorem ev_if_t {t : Expr} (h : Tt G c m σ t true σ₁) (h1 : Ev G c m σ₁ l v σ') : Ev G c m σ (.IfExp t l r pos) v σ' := fun F ω s S Q E p =>
  wpAny_IfExp (h F ω s S _ E fun ω' h' tk' l1 S₁ => by rw [if_pos rfl]; exact h1 F ω' _ S₁ Q E (p.on l1))
theorem ev_if_f {t : Expr} (h : Tt G c m σ t false σ₁) (h1 : Ev G c m σ₁ r v σ') : Ev G c m σ (.IfExp t l r pos) v σ' := fun F ω s S Q E p =>
  wpAny_IfExp (h F ω s S _ E fun ω' h' tk' l1 S₁ => by rw [if_neg (by simp)]; exact h1 F ω' _ S₁ Q E (p.on l1))

/-- tests with and, or -/
noncomputable def At (G : Gl) (c : Cx) (m : List (PySem.Str × AV)) (op : BoolOp) (σ : List AO) (es : List Expr) (b : Bool) (σ' : List AO) : Prop :=
  ∀ F ω s, St G c F ω m σ s.heap → ∀ (Q : Bool → Shared → Prop) E, (∀ ω' h' tk', ω.le ω' → St G c F ω' m σ' h' → Q b { s with heap := h', toks := tk' }) → wpAny (model P0 G.w) F.A (allTrue op es (ev c F)) Q E s
theorem tt_bop {op : BoolOp} {es : List Expr} {x : Bool} (h : At G c m op σ es x σ') : Tt G c m σ (.BoolOp op es pos) x σ' := fun F ω s S Q E p => wpAny_isTrue_BoolOp (h F ω s S Q E p)
theorem at_and_nil : At G c m .And σ [] true σ := fun F ω s S Q E p => wpAny_allTrue_And_nil (p ω s.heap s.toks (.refl ω) S)
theorem at_or_nil : At G c m .Or σ [] false σ := fun F ω s S Q E p => wpAny_allTrue_Or_nil (p ω s.heap s.toks (.refl ω) S)
theorem at_and_t {es : List Expr} {x : Bool} (h : Tt G c m σ e true σ₁) (h2 : At G c m .And σ₁ es x σ') : At G c m .And σ (e :: es) x σ' := fun F ω s S Q E p =>
  wpAny_allTrue_And_cons (h F ω s S _ E fun ω' h' tk' l1 S₁ => by rw [if_pos rfl]; exact h2 F ω' _ S₁ Q E fun ω'' h'' tk'' l2 S₂ => p ω'' h'' tk'' (l1.trans l2) S₂)
theorem at_and_f {es : List Expr} (h : Tt G c m σ e false σ') : At G c m .And σ (e :: es) false σ' := fun F ω s S Q E p =>
  wpAny_allTrue_And_cons (h F ω s S _ E fun ω' h' tk' l1 S₁ => by rw [if_neg (by simp)]; exact p ω' h' tk' l1 S₁)
theorem at_or_f {es : List Expr} {x : Bool} (h : Tt G c m σ e false σ₁) (h2 : At G c m .Or σ₁ es x σ') : At G c m .Or σ (e :: es) x σ' := fun F ω s S Q E p =>
  wpAny_allTrue_Or_cons (h F ω s S _ E fun ω' h' tk' l1 S₁ => by rw [if_neg (by simp)]; exact h2 F ω' _ S₁ Q E fun ω'' h'' tk'' l2 S₂ => p ω'' h'' tk'' (l1.trans l2) S₂)
theorem at_or_t {es : List Expr} (h : Tt G c m σ e true σ') : At G c m .Or σ (e :: es) true σ' := fun F ω s S Q E p =>
  wpAny_allTrue_Or_cons (h F ω s S _ E fun ω' h' tk' l1 S₁ => by rw [if_pos rfl]; exact p ω' h' tk' l1 S₁)
/-! ints -/
theorem op_add {i j : Int} : Op2 G (binaryOp .Add) σ (.int i) (.int j) (.int (i + j)) σ := fun c F ω m s a' b' S ra rb Q E p => by cases ra; cases rb; exact add_int (p.tok S (.int _ _) _)
theorem op_sub {i j : Int} : Op2 G (binaryOp .Sub) σ (.int i) (.int j) (.int (i - j)) σ := fun c F ω m s a' b' S ra rb Q E p => by cases ra; cases rb; exact sub_int (p.tok S (.int _ _) _)
theorem op_mul {i j : Int} (hm : IntMulOk i j) : Op2 G (binaryOp .Mult) σ (.int i) (.int j) (.int (i * j)) σ := fun c F ω m s a' b' S ra rb Q E p => by cases ra; cases rb; exact PyProof.Rows.mul_int (p.tok S (.int _ _) _) hm
theorem op_mod {i j : Int} (hj : j ≠ 0) : Op2 G (binaryOp .Mod) σ (.int i) (.int j) (.int (i.fmod j)) σ := fun c F ω m s a' b' S ra rb Q E p => by cases ra; cases rb; exact mod_int' hj (p.tok S (.int _ _) _)
theorem op_fdiv {i j : Int} (hj : j ≠ 0) (hs : j.natAbs < 1073741824) : Op2 G (binaryOp .FloorDiv) σ (.int i) (.int j) (.int (i.fdiv j)) σ := fun c F ω m s a' b' S ra rb Q E p => by
  cases ra; cases rb; exact floordiv_int hj (p.tok S (.int _ _) _) (.inl (PyProof.noPylong_small hs))
theorem op_neg {i : Int} : Op1 G (unaryOp .USub) σ (.int i) (.int (-i)) σ := fun c F ω m s a' S ra Q E p => by cases ra; exact PySem.P.neg_int (p.tok S (.int _ _) _)
theorem op_not {x : Bool} (h : Tru G σ a x) : Op1 G (unaryOp .Not) σ a (.bool (!x)) σ := fun c F ω m s a' S ra Q E p =>
  not_value (h c F ω m s a' S ra _ E fun tk => p.tok S (.bool _) tk)
theorem op_eq {i j : Int} : Op2 G (compareOp .Eq) σ (.int i) (.int j) (.bool (i == j)) σ := fun c F ω m s a' b' S ra rb Q E p => by cases ra; cases rb; exact PyProof.Rows.eq_int (p.here S (.bool _))
theorem op_ne {i j : Int} : Op2 G (compareOp .NotEq) σ (.int i) (.int j) (.bool (i != j)) σ := fun c F ω m s a' b' S ra rb Q E p => by cases ra; cases rb; exact PyProof.Rows.ne_int (p.here S (.bool _))
theorem op_lt {i j : Int} : Op2 G (compareOp .Lt) σ (.int i) (.int j) (.bool (decide (i < j))) σ := fun c F ω m s a' b' S ra rb Q E p => by cases ra; cases rb; exact PyProof.Rows.lt_int (p.here S (.bool _))
theorem op_gt {i j : Int} : Op2 G (compareOp .Gt) σ (.int i) (.int j) (.bool (decide (j < i))) σ := fun c F ω m s a' b' S ra rb Q E p => by cases ra; cases rb; exact PyProof.Rows.gt_int (p.here S (.bool _))
theorem op_ge {i j : Int} : Op2 G (compareOp .GtE) σ (.int i) (.int j) (.bool (decide (i ≥ j))) σ := fun c F ω m s a' b' S ra rb Q E p => by cases ra; cases rb; exact PySem.P.ge_int (p.here S (.bool _))
theorem tru_int {i : Int} : Tru G σ (.int i) (i != 0) := fun c F ω m s a' S r Q E q => by cases r; exact PySem.P.truthy_int (q s.toks)
/-! strs -/
theorem op_in_str {x y : PySem.Str} : Op2 G (compareOp .In) σ (.str y) (.str x) (.bool !(Builtin.Str.occurrences x y 0 x.length 1).isEmpty) σ := fun c F ω m s a' b' S ra rb Q E p => by cases ra; cases rb; exact PySem.P.in_str (p.here S (.bool _))
/-! None -/
theorem op_is_none {a : AV} {x : Bool} (hx : ∀ ω a', VR G.K ω a a' → (a' == Value.none) = x) : Op2 G (compareOp .Is) σ a .none (.bool x) σ := fun c F ω m s a' b' S ra rb Q E p => by
  cases rb; exact is_none (by rw [hx ω a' ra]; exact p.here S (.bool _))
theorem op_isnot_none {a : AV} {x : Bool} (hx : ∀ ω a', VR G.K ω a a' → (a' == Value.none) = x) : Op2 G (compareOp .IsNot) σ a .none (.bool (!x)) σ := fun c F ω m s a' b' S ra rb Q E p => by
  cases rb; exact isNot_none (by rw [hx ω a' ra]; exact p.here S (.bool _))
end
end SM3
section SM4
inductive AF where
  | next
  | cont
  | ret (v : AV)
inductive FlR (K : Frag) (ω : Wd) : AF → Flow → Prop where
  | next : FlR K ω .next .next
  | cont : FlR K ω .cont .cont
  | ret {v : AV} {x : Value} : VR K ω v x → FlR K ω (.ret v) (.ret x)
theorem isStr_ne {x k : PySem.Str} {t : Tok} (q : ¬ x = k) : (Value.str k t).isStr x = false := by
  simp [Value.isStr]
  exact fun z => q z.symm
theorem isStr_eq {x k : PySem.Str} {t : Tok} (q : x = k) : (Value.str k t).isStr x = true := by
  subst q
  simp [Value.isStr]
theorem interactive_fn {n : PySem.Str} {cs : Scope} {L a : Addr} {cd : Value} {cl : List (PySem.Str × Addr)} (h : cs.kind = .function) : interactive (envX n cs L a cd cl) = false := by
  show (cs.kind == .module && _) = false
  rw [h]; rfl
/-- what stands behind a statement -/
noncomputable def Pf (G : Gl) (c : Cx) (F : Fm) (ω : Wd) (s : Shared) (fl : AF) (m' : List (PySem.Str × AV)) (σ' : List AO) (Q : Flow → Shared → Prop) : Prop :=
  ∀ ω' fl' h' tk', ω.le ω' → St G c F ω' m' σ' h' → FlR G.K ω' fl fl' → Q fl' { s with heap := h', toks := tk' }
noncomputable def Sx (G : Gl) (c : Cx) (m : List (PySem.Str × AV)) (σ : List AO) (ss : List Stmt) (fl : AF) (m' : List (PySem.Str × AV)) (σ' : List AO) : Prop :=
  ∀ F ω s, St G c F ω m σ s.heap → ∀ Q E, Pf G c F ω s fl m' σ' Q → wpAny (model P0 G.w) F.A (execs ss (ev c F)) Q E s
noncomputable def S1 (G : Gl) (c : Cx) (m : List (PySem.Str × AV)) (σ : List AO) (st : Stmt) (fl : AF) (m' : List (PySem.Str × AV)) (σ' : List AO) : Prop :=
  ∀ F ω s, St G c F ω m σ s.heap → ∀ Q E, Pf G c F ω s fl m' σ' Q → wpAny (model P0 G.w) F.A (exec st (ev c F)) Q E s
/-- a store into a name -/
noncomputable def Sn (G : Gl) (c : Cx) (m : List (PySem.Str × AV)) (σ : List AO) (x : PySem.Str) (v : AV) (m' : List (PySem.Str × AV)) (σ' : List AO) : Prop :=
  ∀ F ω s v', St G c F ω m σ s.heap → VR G.K ω v v' → ∀ (Q : Unit → Shared → Prop) E, (∀ h' tk', St G c F ω m' σ' h' → Q () { s with heap := h', toks := tk' }) → wpAny (model P0 G.w) F.A (storeName (ev c F) x v') Q E s

section
variable {G : Gl} {c : Cx} {F : Fm} {ω ω' : Wd} {m m₁ m' : List (PySem.Str × AV)} {σ σ₁ σ₂ σ₃ σ' : List AO} {e l r : Expr} {pos pos' : Pos} {v a b : AV} {st : Stmt} {ss : List Stmt} {fl : AF} {x : PySem.Str}

theorem Pf.on {s : Shared} {h₁ : Heap} {t₁ : Nat} {Q : Flow → Shared → Prop} (p : Pf G c F ω s fl m' σ' Q) (hl : ω.le ω') : Pf G c F ω' { s with heap := h₁, toks := t₁ } fl m' σ' Q :=
  fun ω'' v' h' tk' h1 h2 h3 => p ω'' v' h' tk' (hl.trans h1) h2 h3
theorem sx_nil : Sx G c m σ [] .next m σ := fun F ω s S Q E p => wpAny_execs_nil (p ω .next s.heap s.toks (.refl ω) S .next)
theorem sx_cons (h : S1 G c m σ st .next m₁ σ₁) (h2 : Sx G c m₁ σ₁ ss fl m' σ') : Sx G c m σ (st :: ss) fl m' σ' := fun F ω s S Q E p =>
  wpAny_execs_cons (h F ω s S _ E fun ω₁ fl' h' tk' hl S₁ hf => by cases hf; exact h2 F ω₁ _ S₁ Q E (p.on hl))
theorem sx_stop (h : S1 G c m σ st fl m' σ') (hn : fl ≠ .next := by ked_reads) : Sx G c m σ (st :: ss) fl m' σ' := fun F ω s S Q E p =>
  wpAny_execs_cons (h F ω s S _ E fun ω₁ fl' h' tk' hl S₁ hf => by cases hf with
    | next => exact absurd rfl hn
    | cont => exact p ω₁ _ h' tk' hl S₁ .cont
    | ret hv => exact p ω₁ _ h' tk' hl S₁ (.ret hv))
theorem s_ret (h : Ev G c m σ e v σ') : S1 G c m σ (.Return (some e) pos) (.ret v) m σ' := fun F ω s S Q E p =>
  wpAny_Return_some (h F ω s S _ E fun ω' v' h' tk' l1 S₁ hv => p ω' _ h' tk' l1 S₁ (.ret hv))
theorem s_if_t {t : Expr} {b1 b2 : List Stmt} (h : Tt G c m σ t true σ₁) (h1 : Sx G c m σ₁ b1 fl m' σ') : S1 G c m σ (.If t b1 b2 pos) fl m' σ' := fun F ω s S Q E p =>
  wpAny_If (h F ω s S _ E fun ω' h' tk' l1 S₁ => by rw [if_pos rfl]; exact h1 F ω' _ S₁ Q E (p.on l1))
theorem s_if_f {t : Expr} {b1 b2 : List Stmt} (h : Tt G c m σ t false σ₁) (h1 : Sx G c m σ₁ b2 fl m' σ') : S1 G c m σ (.If t b1 b2 pos) fl m' σ' := fun F ω s S Q E p =>
  wpAny_If (h F ω s S _ E fun ω' h' tk' l1 S₁ => by rw [if_neg (by simp)]; exact h1 F ω' _ S₁ Q E (p.on l1))
theorem s_expr (h : Ev G c m σ e v σ') (hb : c.blk = none := by rfl) (hs : ∀ env, swapsWith e none pos.line env = pure false := by ked_read) : S1 G c m σ (.Expr e pos) .next m σ' := fun F ω s S Q E p =>
  wpAny_Expr_any (h F ω s S _ E fun ω' v' h' tk' l1 S₁ hv => p ω' _ h' tk' l1 S₁ .next) (by unfold ev; rw [hb]; exact interactive_fn S.hK) (hs _)

/-! names stored -/
theorem lk_put {x y : PySem.Str} {v : AV} : ∀ {m : List (PySem.Str × AV)}, lk y (put x v m) = if y = x then some v else lk y m
  | [] => by
    simp only [put, lk]
  | (z, u) :: r => by
    by_cases h : x = z
    · subst h
      simp only [put, if_true, lk]
      by_cases q : y = x
      · rw [if_pos q, if_pos q]
      · rw [if_neg q, if_neg q, if_neg q]
    · simp only [put, if_neg h, lk]
      by_cases q : y = z
      · rw [if_pos q, if_pos q, if_neg (fun e => h (e.symm.trans q))]
      · rw [if_neg q, if_neg q, lk_put]
theorem sn_local (hb : c.blk = none) (hx : c.cs.names.lookup x = some .local) : Sn G c m σ x v (put x v m) σ := fun F ω s v' S hv Q E p => by
  obtain ⟨M, Fh, hM⟩ := S.lo
  obtain ⟨os, N, hl, rr⟩ := S.hp
  unfold ev; rw [hb]
  refine storeX_L Fh N (fun h' F' N' => p h' _ { S with lo := ⟨_, F', fun y u e => ?_⟩, hp := ⟨os, N', hl, rr⟩ }) S.hK hx
  rw [lk_put] at e
  by_cases q : y = x
  · rw [if_pos q] at e; cases e
    exact ⟨v', by rw [if_pos q], hv⟩
  · rw [if_neg q] at e
    obtain ⟨u', h1, h2⟩ := hM y u e
    exact ⟨u', by rw [if_neg q]; exact h1, h2⟩
theorem wpAny_storeName_cellS {M : Model} {A : Around} {E : Value → Shared → Prop} {s : Shared} {env : Env} {x : PySem.Str} {a : Addr} {o : Obj} {v : Value} {v₀ : Option Value} {Q : Unit → Shared → Prop}
    (hk : env.scope.kind = .function) (hx : env.kindOf x = some .cell) (hc : env.cells.lookup x = some a) (ho : s.heap.get? a = some o) (hd : o.data = .cell v₀)
    (h : ∀ h' o', h'.get? a = some o' → o'.data = .cell (some v) → Heap.SameBut a s.heap h' → Q () { s with heap := h' }) : wpAny M A (storeName env x v) Q E s :=
  wpAny_storeName_cell hk hx hc ⟨o, ho, hd⟩ fun h' hv hs => let ⟨o', ho', hd'⟩ := hv; h h' o' ho' hd' hs
theorem s_assign (h : Ev G c m σ e v σ₁) (h2 : Sn G c m σ₁ x v m' σ') (hs : ∀ env, swapsWith e (some (.Name x pos')) pos.line env = pure false := by ked_read) : S1 G c m σ (.Assign [.Name x pos'] e pos) .next m' σ' := fun F ω s S Q E p =>
  wpAny_Assign_Name (h F ω s S _ E fun ω' v' h' tk' l1 S₁ hv => h2 F ω' _ v' S₁ hv _ E fun h'' tk'' S₂ => p ω' _ h'' tk'' l1 S₂ .next) (hs _)

/-! attributes -/
/-- attribute of an object: name, value, of the class at C whose dict reads es -/
noncomputable def Ga (G : Gl) (σ : List AO) (a : AV) (x : PySem.Str) (v : AV) : Prop :=
  ∀ c F ω m s a' ex, St G c F ω m σ s.heap → VR G.K ω a a' → ∀ Q E, Po G c F ω m s v σ Q → wpAny (model P0 G.w) F.A (getAttr a' x ex) Q E s
theorem EnR.getL {P : Params} {K : Frag} {ω : Wd} {x : PySem.Str} {v : AV} {es : List (PySem.Str × AV)} {ds : List DictEntry} (hh : EnR P K ω es ds) (e : lk x es = some v) : ∃ v', PySem.W.getL x ds = some (some v') ∧ VR K ω v v' := by
  induction hh with
  | nil => cases e
  | @cons k t _ u es ds h r ih =>
    unfold lk at e
    by_cases q : x = k
    · rw [if_pos q] at e; cases e
      refine ⟨u, ?_, h⟩
      have hk : (Value.str k t).isStr x = true := isStr_eq q
      unfold PySem.W.getL
      rw [List.find?_cons, hk]
    · rw [if_neg q] at e
      obtain ⟨v', h1, h2⟩ := ih e
      refine ⟨v', ?_, h2⟩
      have hk : (Value.str k t).isStr x = false := isStr_ne q
      have hr : ∀ h w, (⟨h, Value.str k t, w⟩ : DictEntry).refKey = false := fun _ _ => rfl
      unfold PySem.W.getL at h1 ⊢
      simp only [List.find?_cons, hk, List.any_cons, hr, Bool.false_or]
      exact h1
theorem EnR.getL0 {P : Params} {K : Frag} {ω : Wd} {x : PySem.Str} {es : List (PySem.Str × AV)} {ds : List DictEntry} (hh : EnR P K ω es ds) (e : lk x es = none) : PySem.W.getL x ds = some none := by
  induction hh with
  | nil => rfl
  | @cons k t _ u es ds h r ih =>
    unfold lk at e
    by_cases q : x = k
    · rw [if_pos q] at e; cases e
    · rw [if_neg q] at e
      have h1 := ih e
      have hk : (Value.str k t).isStr x = false := isStr_ne q
      have hr : ∀ h w, (⟨h, Value.str k t, w⟩ : DictEntry).refKey = false := fun _ _ => rfl
      unfold PySem.W.getL at h1 ⊢
      simp only [List.find?_cons, hk, List.any_cons, hr, Bool.false_or]
      exact h1
theorem EnR.putL {P : Params} {K : Frag} {ω : Wd} {x : PySem.Str} {v : AV} {v' : Value} {t : Tok} (hv : VR K ω v v') {es : List (PySem.Str × AV)} {ds : List DictEntry} (hh : EnR P K ω es ds) : EnR P K ω (put x v es) (PySem.W.putL x (PyData.keyHash P x) (.str x t) v' ds) := by
  induction hh with
  | nil => exact .cons hv .nil
  | @cons k t _ u es ds h r ih =>
    by_cases q : x = k
    · have hk : (Value.str k t).isStr x = true := isStr_eq q
      simp only [put, if_pos q, PySem.W.putL, hk, if_true]
      exact .cons hv r
    · have hk : (Value.str k t).isStr x = false := isStr_ne q
      simp only [put, if_neg q, PySem.W.putL, hk]
      exact .cons h ih
theorem EnR.length {P : Params} {K : Frag} {ω : Wd} {es : List (PySem.Str × AV)} {ds : List DictEntry} (hh : EnR P K ω es ds) : ds.length = es.length := by
  induction hh with
  | nil => rfl
  | cons h r ih => exact congrArg (· + 1) ih
theorem VR.handed {K : Frag} {ω : Wd} {v : AV} {v' : Value} (h : VR K ω v v') (hn : ∀ w, v ≠ .glob w) : handedIn v' = true := by
  cases h with
  | glob => exact absurd rfl (hn _)
  | _ => rfl

theorem St.inst (S : St G c F ω m σ s) {i d : Nat} {C : Addr} {es : List (PySem.Str × AV)} (hi : σ[i]? = some (.inst C d)) (hd : σ[d]? = some (.idict es)) {a' : Value} (ha : VR G.K ω (.loc i) a') :
    ∃ x dx ds n, a' = .ref x ∧ ω.as[i]? = some x ∧ ω.as[d]? = some dx ∧ InstAt s x (instObj C dx) C (some (dictOf ds n)) ∧ EnR G.w.params G.K ω es ds ∧ s.get? dx = some (dictOf ds n) := by
  replace ha := ha.m
  obtain ⟨_, rfl, ha⟩ := ha
  obtain ⟨o, ho, hr⟩ := S.atL hi ha
  cases hr with
  | inst hd' =>
    obtain ⟨od, hod, hrd⟩ := S.atL hd hd'
    replace hrd := hrd.m
    obtain ⟨_, _, rfl, hen⟩ := hrd
    exact ⟨_, _, _, _, rfl, ha, hd', ⟨ho, rfl, rfl, hod⟩, hen, hod⟩
theorem ga_inst {i d : Nat} {C : Addr} {es : List (PySem.Str × AV)} {attr : Option Value} (hi : σ[i]? = some (.inst C d)) (hd : σ[d]? = some (.idict es)) (hx : lk x es = some v)
    (hg : plainGet G.K C x = true) (hh : hasDictIn G.K C = true) (ha : findIn G.K (.ref C) x = some attr) (hn : noGet G.K attr = true) (hv : ∀ w, v ≠ .glob w) : Ga G σ (.loc i) x v := fun c F ω m s a' ex S r Q E p => by
  obtain ⟨M, Fh, hM⟩ := S.lo
  obtain ⟨y, dx, ds, n, rfl, _, _, I, hen, _⟩ := S.inst hi hd r
  obtain ⟨v', h1, h2⟩ := hen.getL hx
  exact get_own Fh S.X I hg hh ha hn h1 (h2.handed hv) (p.tok S h2 _)
end
end SM4
section SM5
section
variable {G : Gl} {c : Cx} {F : Fm} {ω ω' : Wd} {m m₁ m' : List (PySem.Str × AV)} {σ σ₁ σ₂ σ₃ σ' : List AO} {e l r : Expr} {pos pos' : Pos} {v a b : AV} {st : Stmt} {ss : List Stmt} {fl : AF} {x : PySem.Str} {es : List Expr} {vs : List AV} {f : Value}

/-! arguments and calls -/
theorem evs_nil : Evs G c m σ [] [] σ := fun F ω s pos S Q E p => wpAny_items_nil (p ω [] s.heap s.toks (.refl ω) S .nil)
theorem evs_cons (h : Ev G c m σ e v σ₁) (h2 : Evs G c m σ₁ es vs σ') (he : ∀ env, starEach (e :: es) env = (false, eval e env) :: starEach es env := by ked_read) : Evs G c m σ (e :: es) (v :: vs) σ' := fun F ω s pos S Q E p =>
  wpAny_items_cons (h F ω s S _ E fun ω₁ v' h' tk' l1 S₁ hv => h2 F ω₁ _ pos S₁ _ E fun ω₂ ws h'' tk'' l2 S₂ hvs => p ω₂ _ h'' tk'' (l1.trans l2) S₂ (.cons (hv.mono l2) hvs)) (he _)

noncomputable def KpV (G : Gl) (f : Value) : Prop := ∀ (M : Model) h, G.K.In h → ∃ k, (k = Keeper.frame ∨ k = Keeper.machine ∨ k = Keeper.boundFrame) ∧ Looks M h (keeperOf f) k
theorem kp_K {f : Value} (hk : keepIn G.K f = true) : KpV G f := fun M h X => keeps_K hk h X
theorem kp_B {i : String} : KpV G (.builtin i) := fun M h X => ⟨.machine, .inr (.inl rfl), Looks.of_pure rfl⟩
theorem kp_T {i : String} : KpV G (.type i) := fun M h X => ⟨.machine, .inr (.inl rfl), Looks.of_pure rfl⟩

noncomputable def plainArgs (es : List Expr) : Prop := ∀ env, starEach es env = es.map fun e => (false, eval e env)
theorem backTo_plain {env : Env} (hp : plainArgs es) : (backTo pos (starEach es env)).any (·.1) = false := by
  rw [hp env]; simp [backTo]
theorem evalArgs_of {M : Model} {A : Around} {E : Value → Shared → Prop} {s : Shared} {env : Env} {Q : Args → Shared → Prop} (hp : plainArgs es) (h : wpAny M A (spliced (backTo pos (starEach es env))) (fun vs s' => Q ⟨vs, []⟩ s') E s) :
    wpAny M A (evalArgs f true (backTo pos (starEach es env)) []) Q E s := by
  cases es with
  | nil =>
    unfold evalArgs
    show wpAny M A (spliced [] >>= _) Q E s
    refine wpAny_bind (wpAny_mono h (fun vs s' h' => ?_) fun _ _ x => x)
    refine wpAny_bind (wpAny_pure ?_)
    refine wpAny_holding ?_
    exact wpAny_bind (wpAny_pure (wpAny_bind (wpAny_pure (wpAny_pure h'))))
  | cons e r =>
    have e1 : backTo pos (starEach (e :: r) env) = (false, eval e env) :: backTo pos (r.map fun e => (false, eval e env)) := by rw [hp env]; rfl
    rw [e1] at h ⊢
    exact Calls.evalArgs_plain h

theorem callWith_any {first : List AV} {first' : List Value} {k : Nat} (hp : plainArgs es) (hk : KpV G f) (he : Evs G c m σ es vs σ₁) (hc : Cl G k f (first ++ vs) σ₁ v σ') (hkc : k ≤ c.k)
    {s : Shared} (S : St G c F ω m σ s.heap) (hf : VRs G.K ω first first') {Q : Value → Shared → Prop} {E : Value → Shared → Prop} (p : Po G c F ω m s v σ' Q) :
    wpAny (model P0 G.w) F.A (callWith pos f first' (backTo pos (starEach es (ev c F))) []) Q E s :=
  callWith_of (P := G.K.In) (by rw [backTo_plain hp]; rfl) (hk _) (evalArgs_of hp (he F ω s pos S _ E fun ω₁ ws h' tk' l1 S₁ hvs =>
    ⟨S₁.KIn, hc c F ω₁ m _ _ hkc S₁ (VRs.append hvs (hf.mono l1)) Q E (p.on l1)⟩))
theorem ev_call {k : Nat} (hf : Ev G c m σ (.Name x pos') (.glob f) σ) (he : Evs G c m σ es vs σ₁) (hk : KpV G f) (hc : Cl G k f vs σ₁ v σ') (hkc : k ≤ c.k := by decide) (hp : plainArgs es := by ked_read) : Ev G c m σ (.Call (.Name x pos') es [] pos) v σ' := fun F ω s S Q E p =>
  wpAny_Call_NameR (hf F ω s S _ E fun ω₁ f' h' tk' l1 S₁ hv => by
    cases hv
    exact callWith_any (first := []) (first' := []) hp hk he hc hkc (s := { s with heap := h', toks := tk' }) S₁ .nil (p.on l1))

/-- a method of an object, found -/
noncomputable def Gm (G : Gl) (σ : List AO) (a : AV) (x : PySem.Str) (f : Value) : Prop :=
  ∀ c F ω m s a' pl, St G c F ω m σ s.heap → VR G.K ω a a' → ∀ (Q : Value × List Value → Shared → Prop) E, (∀ tk', Q (f, [a']) { s with toks := tk' }) → wpAny (model P0 G.w) F.A (getMethod a' x pl) Q E s
theorem ev_callm {k : Nat} {apos : Pos} (ho : Ev G c m σ e a σ₁) (hm : Gm G σ₁ a x f) (he : Evs G c m σ₁ es vs σ₂) (hk : KpV G f) (hc : Cl G k f (a :: vs) σ₂ v σ') (hkc : k ≤ c.k := by decide) (hp : plainArgs es := by ked_read)
    (hline : (apos.endLine == pos.line) = true := by rfl) (hbase : ∀ env, attributeBase e x env (eval e env) = eval e env := by ked_read) (hlen : decide (es.length + 0 + 0 < 30) = true := by rfl) : Ev G c m σ (.Call (.Attribute e x apos) es [] pos) v σ' := fun F ω s S Q E p => by
  rw [arm_eval_Call, hbase]
  refine wpAny_bind (ho F ω s S _ E fun ω₁ a' h' tk' l1 S₁ ha => ?_)
  refine wpAny_bind (wpAny_standAt ?_)
  have hform : methodCallForm (es.length + ([] : List Keyword).length) (backTo pos (starEach es (ev c F))) (backToKw pos (keywordEach [] (ev c F))) = true := by
    have h1 : (backTo pos (starEach es (ev c F))).all (!·.1) = true := by rw [hp]; simp [backTo]
    unfold methodCallForm
    rw [h1]
    show (true && (true && decide (es.length + 0 + 0 < 30))) = true
    rw [hlen]; rfl
  have hpos : methodCallPos true e (ev c F) apos pos = pure pos := by unfold methodCallPos; simp [hline]
  unfold methodCall calleeOf
  rw [hform]
  refine wpAny_bind (wpAny_holding (hm c F ω₁ m _ a' _ S₁ ha _ E fun tk => ?_))
  refine wpAny_bind (wpAny_of_eq hpos ?_)
  exact callWith_any (first := [a]) (first' := [a']) hp hk he hc hkc (s := { s with heap := h', toks := tk }) S₁ (.cons ha .nil) (p.on l1)
theorem ev_attr {apos : Pos} (ho : Ev G c m σ e a σ') (hm : Ga G σ' a x v) (hbase : ∀ env, attributeBase e x env (eval e env) = eval e env := by ked_read) : Ev G c m σ (.Attribute e x apos) v σ' := fun F ω s S Q E p => by
  rw [arm_eval_Attribute, hbase]
  refine wpAny_bind (ho F ω s S _ E fun ω₁ a' h' tk' l1 S₁ ha => ?_)
  refine wpAny_bind (wpAny_standAt ?_)
  refine wpAny_bind (wpAny_holding (hm c F ω₁ m _ a' true S₁ ha _ E fun ω₂ v' h'' tk'' l2 S₂ hv => ?_))
  exact wpAny_bind (wpAny_letTemporaryGo (wpAny_pure (p ω₂ v' h'' tk'' (l1.trans l2) S₂ hv)))
theorem gm_inst {i d : Nat} {C f : Addr} {es : List (PySem.Str × AV)} (hi : σ[i]? = some (.inst C d)) (hd : σ[d]? = some (.idict es)) (hx : lk x es = none)
    (hg : plainGet G.K C x = true) (hf : findIn G.K (.ref C) x = some (some (.ref f))) (ht : isFn G.K (.ref f) = true) : Gm G σ (.loc i) x (.ref f) := fun c F ω m s a' pl S r Q E p => by
  obtain ⟨M, Fh, hM⟩ := S.lo
  obtain ⟨y, dx, ds, n, rfl, _, _, I, hen, _⟩ := S.inst hi hd r
  exact method_inst Fh S.X I hg hf ht (hen.getL0 hx) (p s.toks)

/-! an attribute set -/
theorem St.updN {M : PySem.Str → Option Value} {os : List Obj} {s s' : Heap} {i : Nat} {xo yo : AO} {a' : Addr} {o' : Obj} (S : St G c F ω m σ s) (hM : ∀ x v, lk x m = some v → ∃ v', M x = some v' ∧ VR G.K ω v v') (hl : ω.as.length = os.length) (r : ORs G.w G.K ω σ os)
    (F' : Fr F.h₀ F.L s' M) (N' : News F.h₀ F.L s' ((a', o') :: (lv σ ω.as os ++ ω.T).filter fun p => p.1 != a')) (e : σ[i]? = some xo) (hx : xo.live = true) (ha : ω.as[i]? = some a') (r' : OR G.w G.K ω yo o') (hxt : xo.isTab = yo.isTab := by rfl) : St G c F ω m (σ.set i yo) s' := by
  obtain ⟨o, ho₀, _⟩ := r.get e
  refine { S with lo := ⟨M, F', hM⟩, hp := ⟨os.set i o', fun p hp => ?_, by rw [List.length_set]; exact hl, r.set r' i⟩, nd := (S.ndSet e (.inl hx) hxt).1, gt := (S.ndSet e (.inl hx) hxt).2 }
  rcases List.mem_append.mp hp with hp | hp
  · obtain ⟨j, z, jx, jl, ja, jo⟩ := mem_lv.mp hp
    by_cases hij : i = j
    · subst hij
      rw [ha] at ja
      have e1 : a' = p.1 := Option.some.inj ja
      have e2 : o' = p.2 := by
        rw [List.getElem?_set_self (List.getElem?_eq_some_iff.mp ho₀).1] at jo
        exact Option.some.inj jo
      have := N' (a', o') (.head _)
      rw [e1, e2] at this
      exact this
    · rw [List.getElem?_set_ne hij] at jo jx
      have hne : p.1 ≠ a' := fun z => hij (S.inj e hx ha jx jl (z ▸ ja))
      exact N' p (.tail _ (List.mem_filter.mpr ⟨St.mem jx jl ja jo, by simpa using hne⟩))
  · exact N' p (.tail _ (List.mem_filter.mpr ⟨List.mem_append_right _ hp, by simpa using S.offT e hx ha hp⟩))
/-- setting an attribute -/
noncomputable def Sa (G : Gl) (σ : List AO) (a : AV) (x : PySem.Str) (v : AV) (σ' : List AO) : Prop :=
  ∀ c F ω m s a' v', St G c F ω m σ s.heap → VR G.K ω a a' → VR G.K ω v v' → ∀ (Q : Unit → Shared → Prop) E, (∀ ω' h' tk', ω.le ω' → St G c F ω' m σ' h' → Q () { s with heap := h', toks := tk' }) → wpAny (model P0 G.w) F.A (setAttr a' x v') Q E s
theorem sa_inst {i d : Nat} {C : Addr} {es : List (PySem.Str × AV)} (hi : σ[i]? = some (.inst C d)) (hd : σ[d]? = some (.idict es))
    (hs : findIn G.K (.ref C) "__setattr__" = some (some (.builtin "object.__setattr__"))) (hp : plainOver G.K C = true) (ht : takerIn G.K C x = some none) (hh : hasDictIn G.K C = true) (hz : es.length ≤ 900) :
    Sa G σ (.loc i) x v (σ.set d (.idict (put x v es))) := fun c F ω m s a' v' S r hv Q E p => by
  obtain ⟨M, Fh, hM⟩ := S.lo
  obtain ⟨os, N, hl, rr⟩ := S.hp
  obtain ⟨y, dx, ds, n, rfl, hy, hdx, I, hen, hod⟩ := S.inst hi hd r
  have hmem : (dx, dictOf ds n) ∈ lv σ ω.as os ++ ω.T := by
    obtain ⟨o, ho, _⟩ := rr.get hd
    have h1 := N _ (St.mem hd rfl hdx ho)
    rw [hod] at h1
    cases h1.1
    exact St.mem hd rfl hdx ho
  have N1 : News F.h₀ F.L s.heap ((dx, dictOf ds n) :: (lv σ ω.as os ++ ω.T).filter fun p => p.1 != dx) := fun p hp => by
    rcases List.mem_cons.mp hp with rfl | hp
    · exact N _ hmem
    · exact N p (List.mem_filter.mp hp).1
  have hg : (PySem.W.getL x ds).isSome = true := by
    cases q : lk x es with
    | none => rw [hen.getL0 q]; rfl
    | some u => obtain ⟨u', h1, _⟩ := hen.getL q; rw [h1]; rfl
  have hlen : ∀ {es : List (PySem.Str × AV)}, (put x v es).length ≤ es.length + 1 := by
    intro es
    induction es with
    | nil => simp [put]
    | cons q r ih =>
      obtain ⟨z, u⟩ := q
      simp only [put]
      split
      · simp
      · simp only [List.length_cons]; omega
  have hput : EnR G.w.params G.K ω (put x v es) (PySem.W.putL x (PyData.keyHash G.w.params x) (.str x (s.toks + 1)) v' ds) := hen.putL hv
  refine set_dict Fh S.X N1 I rfl hs hp ht hh hg rfl (.head fun p hp => by simpa using (List.mem_filter.mp hp).2) (by rw [hput.length]; have := hlen (es := es); omega) fun h' F' N' => ?_
  exact p ω h' _ (.refl ω) (S.updN hM hl rr F' N' hd rfl hdx (.idict hput))
theorem s_setattr {apos : Pos} (h : Ev G c m σ e v σ₁) (ho : Ev G c m σ₁ l a σ₂) (hs : Sa G σ₂ a x v σ') (hsw : ∀ env, swapsWith e (some (.Attribute l x apos)) pos.line env = pure false := by ked_read) : S1 G c m σ (.Assign [.Attribute l x apos] e pos) .next m σ' := fun F ω s S Q E p =>
  plainObj_wpAny_Assign_Attribute (h F ω s S _ E fun ω₁ v' h' tk' l1 S₁ hv => ho F ω₁ _ S₁ _ E fun ω₂ a' h'' tk'' l2 S₂ ha =>
    hs c F ω₂ m _ a' v' S₂ ha (hv.mono l2) _ E fun ω₃ h₃ tk₃ l3 S₃ => p ω₃ _ h₃ tk₃ ((l1.trans l2).trans l3) S₃ .next) (hsw _)
theorem s_augattr {apos : Pos} {op : Operator} {u : AV} (ho : Ev G c m σ l a σ₁) (hg : Ga G σ₁ a x u) (h : Ev G c m σ₁ e b σ₂) (hop : Op2 G (inplaceOp op) σ₂ u b v σ₃) (hs : Sa G σ₃ a x v σ') : S1 G c m σ (.AugAssign (.Attribute l x apos) op e pos) .next m σ' := fun F ω s S Q E p =>
  wpAny_AugAssign_AttributeAny (ho F ω s S _ E fun ω₁ a' h₁ t₁ l1 S₁ ha => hg c F ω₁ m _ a' true S₁ ha _ E fun ω₂ u' h₂ t₂ l2 S₂ hu => h F ω₂ _ S₂ _ E fun ω₃ b' h₃ t₃ l3 S₃ hb =>
    hop c F ω₃ m _ u' b' S₃ (hu.mono l3) hb _ E fun ω₄ v' h₄ t₄ l4 S₄ hv => hs c F ω₄ m _ a' v' S₄ (ha.mono ((l2.trans l3).trans l4)) hv _ E fun ω₅ h₅ tk₅ l5 S₅ => p ω₅ _ h₅ tk₅ ((((l1.trans l2).trans l3).trans l4).trans l5) S₅ .next)
theorem op_iadd {i j : Int} : Op2 G (inplaceOp .Add) σ (.int i) (.int j) (.int (i + j)) σ := fun c F ω m s a' b' S ra rb Q E p => by cases ra; cases rb; exact wpAny_iadd_int (p.tok S (.int _ _) _)
end
end SM5
section SM6
section
variable {G : Gl} {c : Cx} {F : Fm} {ω ω' : Wd} {m m₁ m' : List (PySem.Str × AV)} {σ σ₁ σ₂ σ₃ σ' : List AO} {e l r : Expr} {pos pos' : Pos} {v a b : AV} {st : Stmt} {ss : List Stmt} {fl : AF} {x : PySem.Str} {es : List Expr} {vs : List AV} {f : Value}

/-! displays -/
theorem St.pushed {s : Heap} (S : St G c F ω m σ s) {o : Obj} {y : AO} (ho : o.isFreed = false) (r : OR G.w G.K (ω.push s.objs.size) y o) (hy : y.live = true := by rfl) :
    St G c F (ω.push s.objs.size) m (σ ++ [y]) (s.push o) ∧ (ω.push s.objs.size).as[σ.length]? = some s.objs.size :=
  ⟨S.new (fun b o' e => Heap.get?_push_of_some _ e) (Nat.le_refl _) (Heap.get?_push_size _ ho) r hy, by
    show (ω.as ++ [s.objs.size])[σ.length]? = _
    rw [← S.len]; simp⟩
theorem St.pushedT {s : Heap} (S : St G c F ω m σ s) {o : Obj} (ho : o.isFreed = false) : St G c F (ω.pushT s.objs.size o) m σ (s.push o) :=
  S.newT (fun b o' e => Heap.get?_push_of_some _ e) (Nat.le_refl _) (Heap.get?_push_size _ ho)
theorem ev_list (h : Evs G c m σ es vs σ₁) (hz : vs.length ≤ sizeLine := by decide) : Ev G c m σ (.List es pos) (.loc σ₁.length) (σ₁ ++ [.list vs]) := fun F ω s S Q E p =>
  wpAny_List (h F ω s _ S _ E fun ω₁ ws h' tk' l1 S₁ hv => by
    refine ⟨by rw [hv.length]; exact hz, ?_⟩
    obtain ⟨S₂, h2⟩ := S₁.pushed (o := { cls := .type "list", data := .seq ws.toArray }) (y := .list vs) rfl (.list (hv.mono (Wd.le_push _ _)))
    exact p _ _ _ tk' (l1.trans (Wd.le_push _ _)) S₂ (.loc h2))
theorem ev_tuple {k : Nat} (h : Evs G c m σ es vs σ') (hz : vs.length ≤ sizeLine := by decide) : Ev G c m σ (.Tuple es k pos) (.tup vs) σ' := fun F ω s S Q E p =>
  wpAny_Tuple (h F ω s _ S _ E fun ω₁ ws h' tk' l1 S₁ hv => by
    refine ⟨by rw [hv.length]; exact hz, ?_⟩
    exact p _ _ _ tk' (l1.trans (Wd.le_pushT _ _ _)) (S₁.pushedT rfl) (.tup (n := 0) (.head _) (hv.mono (Wd.le_pushT _ _ _))))

/-! what is a list, a tuple -/
theorem St.lst {s : Shared} (S : St G c F ω m σ s.heap) {i : Nat} (hi : σ[i]? = some (.list vs)) {a' : Value} (ha : VR G.K ω (.loc i) a') : ∃ y ws n, a' = .ref y ∧ ω.as[i]? = some y ∧ s.heap.get? y = some (listOf ws.toArray n) ∧ VRs G.K ω vs ws := by
  replace ha := ha.m
  obtain ⟨_, rfl, ha⟩ := ha
  obtain ⟨o, ho, hr⟩ := S.atL hi ha
  replace hr := hr.m
  obtain ⟨_, _, rfl, h1⟩ := hr
  exact ⟨_, _, _, rfl, ha, ho, h1⟩
theorem St.tup {s : Shared} (S : St G c F ω m σ s.heap) {a' : Value} (ha : VR G.K ω (.tup vs) a') : ∃ y ws n, a' = .ref y ∧ s.heap.get? y = some (tupO ws n) ∧ VRs G.K ω vs ws := by
  cases ha with
  | tup h1 h2 => exact ⟨_, _, _, rfl, S.tAt h1, h2⟩
  | tupK h1 h2 => exact ⟨_, _, _, rfl, S.KIn _ _ h1, h2⟩
theorem isList_of {s : Shared} {y : Addr} {ws : List Value} {n : Nat} (h : s.heap.get? y = some (listOf ws.toArray n)) : s.heap.IsList y ws.toArray := ⟨_, h, rfl, n, rfl⟩
theorem isTup_of {s : Shared} {y : Addr} {ws : List Value} {n : Nat} (h : s.heap.get? y = some (tupO ws n)) : IsTup s.heap y ws.toArray := ⟨_, h, rfl, n, rfl⟩

/-! calls of what is built in -/
theorem cl_len_list {i : Nat} (hi : σ[i]? = some (.list vs)) (hz : (vs.length : Int) < 2 ^ 62) : Cl G 0 (.builtin "len") [.loc i] σ (.int vs.length) σ := fun c F ω m s args' hk S hv Q E p => by
  obtain ⟨a', rfl, ha⟩ := hv.one
  obtain ⟨y, ws, n, rfl, _, hl, hw⟩ := S.lst hi ha
  refine len_list (isList_of hl) (by rw [List.size_toArray, hw.length]; omega) ?_
  rw [List.size_toArray, hw.length]
  exact p.tok S (.int _ _) _
theorem cl_len_str {y : PySem.Str} (hz : (y.length : Int) < 2 ^ 62) : Cl G 0 (.builtin "len") [.str y] σ (.int y.length) σ := fun c F ω m s args' hk S hv Q E p => by
  obtain ⟨a', rfl, ha⟩ := hv.one
  cases ha
  exact PySem.P.len_str (by omega) (p.tok S (.int _ _) _)
theorem cl_len_tup (hz : (vs.length : Int) < 2 ^ 62) : Cl G 0 (.builtin "len") [.tup vs] σ (.int vs.length) σ := fun c F ω m s args' hk S hv Q E p => by
  obtain ⟨a', rfl, ha⟩ := hv.one
  obtain ⟨y, ws, n, rfl, ht, hw⟩ := S.tup ha
  refine PyProof.Rows.len_tuple (isTup_of ht) (by rw [List.size_toArray, hw.length]; omega) ?_
  rw [List.size_toArray, hw.length]
  exact p.tok S (.int _ _) _
theorem cl_tuple_list {i : Nat} (hi : σ[i]? = some (.list vs)) (hz : vs.length ≤ sizeLine) : Cl G 0 (.type "tuple") [.loc i] σ (.tup vs) σ := fun c F ω m s args' hk S hv Q E p => by
  obtain ⟨a', rfl, ha⟩ := hv.one
  obtain ⟨y, ws, n, rfl, _, hl, hw⟩ := S.lst hi ha
  refine call_tuple_list (isList_of hl) (fun h' kp => ?_) (by rw [List.size_toArray, hw.length]; exact hz)
  have S' := S.grow kp
  exact p _ _ _ s.toks (Wd.le_pushT _ _ _) (S'.pushedT rfl) (.tup (n := 0) (.head _) (hw.mono (Wd.le_pushT _ _ _)))
theorem cl_tuple_tup : Cl G 0 (.type "tuple") [.tup vs] σ (.tup vs) σ := fun c F ω m s args' hk S hv Q E p => by
  obtain ⟨a', rfl, ha⟩ := hv.one
  obtain ⟨y, ws, n, rfl, ht, hw⟩ := S.tup ha
  exact call_tuple_same (items := ws.toArray) ⟨_, ht, rfl, n, rfl⟩ (p.here S ha)
theorem cl_int_bool {x : Bool} : Cl G 0 (.type "int") [.bool x] σ (.int (if x then 1 else 0)) σ := fun c F ω m s args' hk S hv Q E p => by
  obtain ⟨a', rfl, ha⟩ := hv.one
  cases ha
  cases x
  · exact PySem.call_int_bool (p.tok S (.int _ _) _)
  · exact PySem.call_int_bool (p.tok S (.int _ _) _)
theorem gm_append {i : Nat} (hi : σ[i]? = some (.list vs)) : Gm G σ (.loc i) "append" (.builtin "list.append") := fun c F ω m s a' pl S r Q E p => by
  obtain ⟨y, ws, n, rfl, _, hl, hw⟩ := S.lst hi r
  exact getMethod_builtin ⟨_, hl, rfl⟩ PySem.F.plainAttrs_list PySem.F.slot_list_append type_list_append (fun a e => by cases e; exact ⟨_, hl, rfl⟩) (p s.toks)
theorem cl_append {i : Nat} (hi : σ[i]? = some (.list vs)) (hz : vs.length ≤ sizeLine) : Cl G 0 (.builtin "list.append") [.loc i, v] σ .none (σ.set i (.list (vs ++ [v]))) := fun c F ω m s args' hk S hv Q E p => by
  obtain ⟨a', b', rfl, ha, hb⟩ := hv.two
  obtain ⟨y, ws, n, rfl, hy, hl, hw⟩ := S.lst hi ha
  refine wpAny_list_append_plain ⟨n, hl⟩ (fun h' hl' hs => ?_) (by rw [List.size_toArray, hw.length]; exact hz)
  obtain ⟨n', ho⟩ := hl'
  have e : ws.toArray.push b' = (ws ++ [b']).toArray := by simp
  rw [e] at ho
  exact p ω _ h' s.toks (.refl ω) (S.upd hi hy hs ho (.list (VRs.append (.cons hb .nil) hw))) .none
end
end SM6
section SM7
section
variable {G : Gl} {c : Cx} {F : Fm} {ω ω' : Wd} {m m₁ m' : List (PySem.Str × AV)} {σ σ₁ σ₂ σ₃ σ' : List AO} {e l r : Expr} {pos pos' : Pos} {v a b : AV} {st : Stmt} {ss : List Stmt} {fl : AF} {x : PySem.Str} {es : List Expr} {vs : List AV} {f : Value}

/-! subscripts -/
noncomputable def It (G : Gl) (sl : Expr) (σ : List AO) (a i v : AV) (σ' : List AO) : Prop :=
  ∀ value c F ω m s a' i', St G c F ω m σ s.heap → VR G.K ω a a' → VR G.K ω i i' → ∀ Q E, Po G c F ω m s v σ' Q → wpAny (model P0 G.w) F.A (subscriptTail value sl a' i') Q E s
theorem ev_sub (h1 : Ev G c m σ l a σ₁) (h2 : Ev G c m σ₁ r b σ₂) (h3 : It G r σ₂ a b v σ') : Ev G c m σ (.Subscript l r pos) v σ' := fun F ω s S Q E p =>
  Subscript_ (h1 F ω s S _ E fun ω₁ a' h₁ t₁ l1 S₁ ha => h2 F ω₁ _ S₁ _ E fun ω₂ b' h₂ t₂ l2 S₂ hb => h3 l c F ω₂ m _ a' b' S₂ (ha.mono l2) hb Q E (p.on (l1.trans l2)))
noncomputable abbrev plainSub (sl : Expr) : Prop := ∀ o i, subscripted sl false o i = operate [o, i] (getItem o i)
theorem it_list {sl : Expr} {i : Nat} {k : Int} (hi : σ[i]? = some (.list vs)) (h0 : 0 ≤ k) (hx : vs[k.toNat]? = some v) (hz : vs.length < 2 ^ 62) (hs : plainSub sl := by ked_read) : It G sl σ (.loc i) (.int k) v σ := fun value c F ω m s a' i' S ha hb Q E p => by
  obtain ⟨y, ws, n, rfl, _, hl, hw⟩ := S.lst hi ha
  cases hb
  obtain ⟨v', hv', hr⟩ := hw.get hx
  have hlt := (List.getElem?_eq_some_iff.mp hx).1
  exact tail_any (isList_of hl).typeIs slot_list_getitem.lookup (wpAny_getItem_list (isList_of hl) h0 (by omega) (by simpa using hv') (p.here S hr)) (hs _ _)
theorem it_list_neg {sl : Expr} {i : Nat} {k : Int} (hi : σ[i]? = some (.list vs)) (h0 : k < 0) (h1 : -(vs.length : Int) ≤ k) (hx : vs[(k + vs.length).toNat]? = some v) (hz : vs.length < 2 ^ 62) (hs : plainSub sl := by ked_read) : It G sl σ (.loc i) (.int k) v σ := fun value c F ω m s a' i' S ha hb Q E p => by
  obtain ⟨y, ws, n, rfl, _, hl, hw⟩ := S.lst hi ha
  cases hb
  obtain ⟨v', hv', hr⟩ := hw.get hx
  have hlen := hw.length
  exact tail_any (isList_of hl).typeIs slot_list_getitem.lookup (wpAny_getItem_list_neg (isList_of hl) h0 (by simp; omega) (by omega) (by simpa [hlen] using hv') (p.here S hr)) (hs _ _)
theorem it_tup {sl : Expr} {k : Int} {j : Nat} (hj : seqIndex? k vs.length = some j) (hx : vs[j]? = some v) (h0 : -1000 ≤ k) (h1 : k ≤ 1000) (hs : plainSub sl := by ked_read) : It G sl σ (.tup vs) (.int k) v σ := fun value c F ω m s a' i' S ha hb Q E p => by
  obtain ⟨y, ws, n, rfl, ht, hw⟩ := S.tup ha
  cases hb
  obtain ⟨v', hv', hr⟩ := hw.get hx
  exact item_tupleT (isTup_of ht) (by omega) (by omega) (by rw [hw.length]; exact hj) hv' (p.here S hr) (hs _ _)

/-! dicts -/
noncomputable def putV (x : PySem.Str) (v : Value) : List (PySem.Str × Value) → List (PySem.Str × Value)
  | [] => [(x, v)]
  | (y, u) :: r => if y = x then (y, v) :: r else (y, u) :: putV x v r
theorem putV_eq {x : PySem.Str} {v : Value} : ∀ {kvs : List (PySem.Str × Value)}, (kvs.map (·.1)).Nodup → stored kvs x v = putV x v kvs
  | [], _ => rfl
  | (y, u) :: r, h => by
    rw [List.map_cons, List.nodup_cons] at h
    have ih := putV_eq (x := x) (v := v) h.2
    unfold stored at ih ⊢
    by_cases q : y = x
    · subst q
      simp only [List.any_cons, decide_true, Bool.true_or, if_true, List.map_cons, putV]
      congr 1
      have : ∀ kv ∈ r, (if kv.1 = y then (kv.1, v) else kv) = kv := fun kv hk => by
        rw [if_neg]
        intro e
        exact h.1 (List.mem_map.mpr ⟨kv, hk, e⟩)
      rw [List.map_congr_left this]; simp
    · simp only [List.any_cons, decide_eq_false q, Bool.false_or, List.map_cons, if_neg q, putV]
      rw [← ih]
      split <;> rfl
theorem KvR.put {K : Frag} {v : AV} {v' : Value} (hv : VR K ω v v') {es : List (PySem.Str × AV)} {kvs : List (PySem.Str × Value)} (hh : KvR K ω es kvs) : KvR K ω (Mine.put x v es) (putV x v' kvs) := by
  induction hh with
  | nil => exact .cons hv .nil
  | @cons k _ _ es kvs h r ih =>
    by_cases q : x = k
    · simp only [Mine.put, if_pos q, putV, if_pos q.symm]
      exact .cons hv r
    · simp only [Mine.put, if_neg q, putV, if_neg (fun e : k = x => q e.symm)]
      exact .cons h ih
theorem valueAt_cons {x k : PySem.Str} {u : Value} {r : List (PySem.Str × Value)} : valueAt ((k, u) :: r) x = if k = x then some u else valueAt r x := by
  unfold valueAt
  by_cases q : k = x
  · simp [q]
  · simp [q]
theorem KvR.at {K : Frag} {es : List (PySem.Str × AV)} {kvs : List (PySem.Str × Value)} (hh : KvR K ω es kvs) (e : lk x es = some v) : ∃ v', valueAt kvs x = some v' ∧ VR K ω v v' := by
  induction hh with
  | nil => cases e
  | @cons k _ u es kvs h r ih =>
    unfold lk at e
    by_cases q : x = k
    · rw [if_pos q] at e; cases e
      exact ⟨u, by rw [valueAt_cons, if_pos q.symm], h⟩
    · rw [if_neg q] at e
      obtain ⟨v', h1, h2⟩ := ih e
      exact ⟨v', by rw [valueAt_cons, if_neg (fun z : k = x => q z.symm)]; exact h1, h2⟩
theorem KvR.at0 {K : Frag} {es : List (PySem.Str × AV)} {kvs : List (PySem.Str × Value)} (hh : KvR K ω es kvs) (e : lk x es = none) : valueAt kvs x = none := by
  induction hh with
  | nil => rfl
  | @cons k _ u es kvs h r ih =>
    unfold lk at e
    by_cases q : x = k
    · rw [if_pos q] at e; cases e
    · rw [if_neg q] at e
      have h1 := ih e
      rw [valueAt_cons, if_neg (fun z : k = x => q z.symm)]; exact h1
theorem KvR.length {K : Frag} {es : List (PySem.Str × AV)} {kvs : List (PySem.Str × Value)} (hh : KvR K ω es kvs) : kvs.length = es.length := by
  induction hh with
  | nil => rfl
  | cons h r ih => exact congrArg (· + 1) ih
theorem St.dct {s : Shared} (S : St G c F ω m σ s.heap) {i : Nat} {ds : List (PySem.Str × AV)} (hi : σ[i]? = some (.dict ds)) {a' : Value} (ha : VR G.K ω (.loc i) a') :
    ∃ y kvs, a' = .ref y ∧ ω.as[i]? = some y ∧ s.heap.DictOf (strKind P0 G.w) y kvs ∧ KvR G.K ω ds kvs ∧ (y == sysModules) = false ∧ (kvs.map (·.1)).Nodup := by
  replace ha := ha.m
  obtain ⟨y, rfl, ha⟩ := ha
  obtain ⟨o, ho, hr⟩ := S.atL hi ha
  replace hr := hr.m
  obtain ⟨_, h1, h2⟩ := hr
  refine ⟨_, _, rfl, ha, Heap.dictOf_iff.mpr ⟨o, ho, h2⟩, h1, ?_, ?_⟩
  · have := S.gt.1 y (mem_la.mpr ⟨i, _, hi, rfl, ha⟩)
    exact beq_eq_false_iff_ne.mpr fun e => by rw [e] at this; exact absurd this (by decide)
  · obtain ⟨_, _, _, _, _, _, hn⟩ := h2; exact hn
theorem it_dict {sl : Expr} {i : Nat} {ds : List (PySem.Str × AV)} (hi : σ[i]? = some (.dict ds)) (hx : lk x ds = some v) (hs : plainSub sl := by ked_read) : It G sl σ (.loc i) (.str x) v σ := fun value c F ω m s a' i' S ha hb Q E p => by
  obtain ⟨y, kvs, rfl, _, hd, hk, _, _⟩ := S.dct hi ha
  cases hb
  obtain ⟨v', hv', hr⟩ := hk.at hx
  exact tail_any hd.typeIs slot_dict_getitem.lookup (wpAny_getItem_of (strKind_is _ _ _ _) hd.mapOf hv' (p.tok S hr _)) (hs _ _)
theorem op_in_dict {i : Nat} {ds : List (PySem.Str × AV)} (hi : σ[i]? = some (.dict ds)) : Op2 G (compareOp .In) σ (.str x) (.loc i) (.bool (lk x ds).isSome) σ := fun c F ω m s a' b' S ra rb Q E p => by
  obtain ⟨y, kvs, rfl, _, hd, hk, hm, _⟩ := S.dct hi rb
  cases ra
  refine wpAny_in_of (strKind_is _ _ _ _) hm hd.mapOf ?_
  have e : (valueAt kvs x).isSome = (lk x ds).isSome := by
    cases q : lk x ds with
    | none => rw [hk.at0 q]; rfl
    | some u => obtain ⟨u', h1, _⟩ := hk.at q; rw [h1]; rfl
  rw [e]
  exact p.tok S (.bool _) _
/-- an item set -/
noncomputable def Si (G : Gl) (σ : List AO) (a i v : AV) (σ' : List AO) : Prop :=
  ∀ c F ω m s a' i' v', St G c F ω m σ s.heap → VR G.K ω a a' → VR G.K ω i i' → VR G.K ω v v' → ∀ (Q : Unit → Shared → Prop) E, (∀ h' tk', St G c F ω m σ' h' → Q () { s with heap := h', toks := tk' }) → wpAny (model P0 G.w) F.A (setItem a' i' v') Q E s
theorem si_list {i : Nat} {k : Int} (hi : σ[i]? = some (.list vs)) (h0 : 0 ≤ k) (h1 : k < vs.length) (hz : vs.length < 2 ^ 62) : Si G σ (.loc i) (.int k) v (σ.set i (.list (vs.set k.toNat v))) := fun c F ω m s a' i' v' S ha hb hv Q E p => by
  obtain ⟨y, ws, n, rfl, hy, hl, hw⟩ := S.lst hi ha
  cases hb
  have hlen := hw.length
  refine ki_setAt hl h0 (by omega) (by simp; omega) (p _ s.toks ?_)
  have e : Obj.mapSeq (·.setIfInBounds k.toNat v') (listOf ws.toArray n) = listOf (ws.set k.toNat v').toArray (if (ws.toArray.setIfInBounds k.toNat v').size == ws.toArray.size then n else n + 1) := by
    simp [Obj.mapSeq]
  refine S.upd hi hy (Heap.SameBut.update ..) ?_ (.list (n := (if (ws.toArray.setIfInBounds k.toNat v').size == ws.toArray.size then n else n + 1)) (hw.set hv k.toNat))
  rw [Heap.get?_update_self _ hl (by rw [e]; rfl), e]
theorem si_dict {i : Nat} {ds : List (PySem.Str × AV)} (hi : σ[i]? = some (.dict ds)) (hz : ds.length ≤ sizeLine) : Si G σ (.loc i) (.str x) v (σ.set i (.dict (put x v ds))) := fun c F ω m s a' i' v' S ha hb hv Q E p => by
  obtain ⟨y, kvs, rfl, hy, hd, hk, _, hn⟩ := S.dct hi ha
  cases hb
  refine wpAny_setItem_pairs (strKind_is _ _ _ _) hd (fun h' hd' hs => ?_) (by rw [hk.length]; exact hz)
  obtain ⟨o', ho', hi'⟩ := Heap.dictOf_iff.mp hd'
  rw [putV_eq hn] at hi'
  exact p h' _ (S.upd hi hy hs ho' (.dict (hk.put hv) hi'))
theorem s_setitem {sl : Expr} {spos : Pos} (h : Ev G c m σ e v σ₁) (ho : Ev G c m σ₁ l a σ₂) (hi : Ev G c m σ₂ sl b σ₃) (hs : Si G σ₃ a b v σ') (hsw : ∀ env, swapsWith e (some (.Subscript l sl spos)) pos.line env = pure false := by ked_read) : S1 G c m σ (.Assign [.Subscript l sl spos] e pos) .next m σ' := fun F ω s S Q E p =>
  wpAny_Assign_Subscript (h F ω s S _ E fun ω₁ v' h' tk' l1 S₁ hv => ho F ω₁ _ S₁ _ E fun ω₂ a' h'' tk'' l2 S₂ ha => hi F ω₂ _ S₂ _ E fun ω₃ b' h3 t3 l3 S₃ hb =>
    hs c F ω₃ m _ a' b' v' S₃ (ha.mono l3) hb (hv.mono (l2.trans l3)) _ E fun h₃ tk₃ S₄ => p ω₃ _ h₃ tk₃ ((l1.trans l2).trans l3) S₄ .next) (hsw _)
theorem ev_dict0 : Ev G c m σ (.Dict [] [] pos) (.loc σ.length) (σ ++ [.dict []]) := fun F ω s S Q E p => by
  refine wpAny_Dict_empty ?_
  obtain ⟨S₂, h2⟩ := S.pushed (o := { cls := .type "dict", data := .dict #[] }) (y := .dict []) rfl (.dict .nil ⟨#[], 0, ⟨rfl, rfl, rfl⟩, rfl, fun e he => by simp at he, .nil, List.nodup_nil⟩)
  exact p _ _ _ s.toks (Wd.le_push _ _) S₂ (.loc h2)
end
end SM7
section SM8
noncomputable def retOf : AF → AV
  | .ret v => v
  | _ => .none
noncomputable def retV : Flow → Value
  | .ret v => v
  | _ => .none

theorem VRs.zipLk {K : Frag} {ω : Wd} {x : PySem.Str} {v : AV} : ∀ {xs : List PySem.Str} {vs : List AV} {ws : List Value}, VRs K ω vs ws → lk x (xs.zip vs) = some v → ∃ v', (xs.zip ws).lookup x = some v' ∧ VR K ω v v'
  | [], _, _, _, e => by simp [lk] at e
  | _ :: _, _, _, .nil, e => by simp [lk] at e
  | y :: xs, _, _, .cons (x := u) h r, e => by
    simp only [List.zip_cons_cons, lk] at e
    by_cases q : x = y
    · rw [if_pos q] at e; cases e
      subst q
      exact ⟨u, by simp [List.lookup_cons], h⟩
    · rw [if_neg q] at e
      obtain ⟨v', h1, h2⟩ := VRs.zipLk r e
      refine ⟨v', ?_, h2⟩
      have hb : (x == y) = false := by simpa using q
      rw [List.zip_cons_cons, List.lookup_cons, hb]; exact h1
theorem lookup_append' {α β : Type} [BEq α] {x : α} : ∀ {l r : List (α × β)}, (l ++ r).lookup x = ((l.lookup x).or (r.lookup x))
  | [], r => by simp
  | (y, v) :: l, r => by
    rw [List.cons_append, List.lookup_cons, List.lookup_cons]
    cases (x == y)
    · exact lookup_append'
    · simp
theorem lookup_none_of {x : PySem.Str} : ∀ {l : List (PySem.Str × Value)}, x ∉ l.map (·.1) → l.lookup x = none
  | [], _ => rfl
  | (y, v) :: l, h => by
    have hb : (x == y) = false := by
      simp only [List.map_cons, List.mem_cons, not_or] at h
      simpa using h.1
    rw [List.lookup_cons, hb]
    exact lookup_none_of fun q => h (by simp only [List.map_cons]; exact .tail _ q)
theorem lookup_rev {x : PySem.Str} : ∀ {l : List (PySem.Str × Value)}, (l.map (·.1)).Nodup → l.reverse.lookup x = l.lookup x
  | [], _ => rfl
  | (y, v) :: l, h => by
    rw [List.map_cons, List.nodup_cons] at h
    rw [List.reverse_cons, lookup_append', lookup_rev h.2, List.lookup_cons]
    by_cases q : x = y
    · subst q
      rw [lookup_none_of h.1]
      simp [List.lookup_cons]
    · have hb : (x == y) = false := by simpa using q
      simp [hb, List.lookup_cons]
theorem zip_fst_nodup {xs : List PySem.Str} (h : xs.Nodup) : ∀ {ws : List Value}, ((xs.zip ws).map (·.1)).Nodup := by
  intro ws
  have : ((xs.zip ws).map (·.1)).Sublist xs := by
    induction xs generalizing ws with
    | nil => simp
    | cons x xs ih =>
      cases ws with
      | nil => simp
      | cons w ws =>
        simp only [List.zip_cons_cons, List.map_cons]
        exact (ih (List.nodup_cons.mp h).2).cons_cons _
  exact h.sublist this
theorem zip_mem_fst {xs : List PySem.Str} {ws : List Value} {y : PySem.Str × Value} (h : y ∈ xs.zip ws) : y.1 ∈ xs := (List.of_mem_zip h).1

section
variable {G : Gl} {c : Cx} {F : Fm} {ω ω' : Wd} {m m₁ m' : List (PySem.Str × AV)} {σ σ₁ σ₂ σ₃ σ' : List AO} {e l r : Expr} {pos pos' : Pos} {v a b : AV} {st : Stmt} {ss : List Stmt} {fl : AF} {x : PySem.Str} {es : List Expr} {vs : List AV} {f : Value}

/-- back in the caller -/
theorem St.back (S : St G c F ω m σ h) (hle : ω.le ω') {h' : Heap} {M : PySem.Str → Option Value} (hM : ∀ x v, lk x m = some v → ∃ v', M x = some v' ∧ VR G.K ω v v') (Fh : Fr F.h₀ F.L h' M)
    {os : List Obj} (N : News F.h₀ F.L h' (lv σ' ω'.as os ++ ω'.T)) (hl : ω'.as.length = os.length) (r : ORs G.w G.K ω' σ' os) (nd : (la σ' ω'.as ++ ω'.T.map (·.1)).Nodup) (gt : (∀ a ∈ la σ' ω'.as, 200 < a) ∧ Tb σ') : St G c F ω' m σ' h' :=
  { S with cel := S.cel.mono hle, blk := fun b hb => ⟨(S.blk b hb).1, hle.at (S.blk b hb).2.1, (S.blk b hb).2.2.mono hle⟩,
           lo := ⟨M, Fh, fun x v e => let ⟨v', a, b⟩ := hM x v e; ⟨v', a, b.mono hle⟩⟩, hp := ⟨os, N, hl, r⟩, nd := nd, gt := gt, t0 := hle.at S.t0 }

noncomputable abbrev fdOf (sf : Stmt) (q : PySem.Str) (dV pm cdv : Value) : FuncData := fnOf (dName sf) q (dPars sf) (dBody sf) (dScope sf) dV .none .none pm none cdv .none
theorem St.calleeP {h : Heap} {k : Nat} {q : PySem.Str} {sf : Stmt} {cdv : Value} {xs : List PySem.Str} {fa : Addr} {A : Around} {args' : List Value} {g h₁ : Heap} {L' : Addr} {os : List Obj} (S : St G c F ω m σ h)
    (hnd : xs.Nodup) (hk : (dScope sf).kind = .function) (hAf : A.frames = F.A.frames) (hAh : A.handled = F.A.handled) (hAd : A.depth + 4 * k + 1 ≤ 900) (hAu : A.units + 8 * k + 3 ≤ 9000) (hv : VRs G.K ω vs args') (hl : ω.as.length = os.length) (rr : ORs G.w G.K ω σ os)
    (F' : Fr g L' h₁ (fun y => (xs.zip args').reverse.lookup y)) (N' : News g L' h₁ (lv σ ω.as os ++ ω.T)) (B' : Below A F.base (envX c.cn c.cs F.L c.a c.ccd F.cl :: F.outer) g) :
    St G ⟨k, q, dScope sf, fa, cdv, [], none⟩ ⟨A, A.deeper (envOf q (dScope sf) L' fa cdv), F.base, envX c.cn c.cs F.L c.a c.ccd F.cl :: F.outer, g, L', [], 0, [], "", none⟩ ω (xs.zip vs) σ h₁ :=
  { hA := by show (A.deeper _).frames = _; rw [show (A.deeper (envOf q (dScope sf) L' fa cdv)).frames = A.frames.map (envOf q (dScope sf) L' fa cdv :: ·) from rfl, hAf, S.hA]; rfl
    hH := hAh.trans S.hH
    hD := by show A.depth + 1 + 4 * k ≤ 900; omega
    hU := by show A.units + 3 + 8 * k ≤ 9000; omega
    hK := hk
    B := B', XB := S.XB, TB := S.TB, PB := S.PB, cel := trivial, blk := fun b hb => by cases hb
    lo := ⟨_, F', fun x v e => by
      rw [lookup_rev (zip_fst_nodup hnd)]
      exact hv.zipLk e⟩
    hp := ⟨os, N', hl, rr⟩, nd := S.nd, gt := S.gt, t0 := S.t0 }
theorem code_in {k : Nat} {q : PySem.Str} {sf : Stmt} {dV pm cdv : Value} {xs : List PySem.Str}
    {fa : Addr} (ho : G.K.lookup fa = some (fo sf q dV pm cdv)) (hcd : codeIn G.K cdv q = true)
    (hbind : ∀ s ws, G.K.In s.heap → ws.length = vs.length → BindsTo s (fdOf sf q dV pm cdv) ⟨ws, []⟩ (xs.zip ws))
    (hloc : (xs.all fun x => (dScope sf).names.lookup x == some .local) = true) (hnd : xs.Nodup)
    (hbody : Sx G ⟨k, q, dScope sf, fa, cdv, [], none⟩ (xs.zip vs) σ (dBody sf) fl m' σ')
    (hcell : ((dScope sf).names.all fun x => x.2 != .cell) = true) (hco : (dScope sf).isCoroutine = false) (hgen : (dScope sf).isGenerator = false) (hk : (dScope sf).kind = .function)
    {s : Shared} {args' : List Value} {A : Around} (hle : k < c.k) (S : St G c F ω m σ s.heap) (hAf : A.frames = F.A.frames) (hAh : A.handled = F.A.handled) (hAd : A.depth + 4 * k + 1 ≤ 900) (hAu : A.units + 8 * k + 3 ≤ 9000) (hv : VRs G.K ω vs args') {R : Result → Shared → Prop}
    (p : ∀ ω' v' h' tk', ω.le ω' → St G c F ω' m σ' h' → VR G.K ω' (retOf fl) v' → R (.ok (.ret v')) { s with heap := h', toks := tk' }) :
    codeAny (model P0 G.w) A (.call (.ref fa) ⟨args', []⟩) R s := by
  obtain ⟨M, Fh, hM⟩ := S.lo
  obtain ⟨os, N, hl, rr⟩ := S.hp
  have hD := S.hD
  have hU := S.hU
  refine code_def (R := R) S.B Fh S.X N S.T (hAf.trans S.hA) rfl S.hK ho hcd (by show A.depth < 1000; omega) (hbind s args' (S.X.keeps Fh.keep) hv.length) (fun y hy => ?_) (fun g L' h₁ FG F' N' B' X' T' => ?_) hco hgen hk (fun y hy => by simpa using List.all_eq_true.mp hcell y hy)
  · have := List.all_eq_true.mp hloc y.1 (zip_mem_fst hy)
    simpa using this
  · refine hbody ⟨A, A.deeper (envOf q (dScope sf) L' fa cdv), F.base, envX c.cn c.cs F.L c.a c.ccd F.cl :: F.outer, g, L', [], 0, [], "", none⟩ ω _ (S.calleeP (k := k) hnd hk hAf hAh hAd hAu hv hl rr F' N' B') _ _ ?_
    intro ω' fl' h' tk' hle' S' hf
    obtain ⟨M', F'', _⟩ := S'.lo
    obtain ⟨os', N'', hl', rr'⟩ := S'.hp
    exact leaveK_ F'' N'' fun Fb Nb => p ω' _ h' tk' hle' (S.back hle' hM Fb Nb hl' rr' S'.nd S'.gt) (by cases hf with | next => exact .none | cont => exact .none | ret h => exact h)

theorem cl_def {k : Nat} {q : PySem.Str} {sf : Stmt} {dV pm cdv : Value} {xs : List PySem.Str}
    {fa : Addr} (ho : G.K.lookup fa = some (fo sf q dV pm cdv)) (hcd : codeIn G.K cdv q = true)
    (hbind : ∀ s ws, G.K.In s.heap → ws.length = vs.length → BindsTo s (fdOf sf q dV pm cdv) ⟨ws, []⟩ (xs.zip ws))
    (hloc : (xs.all fun x => (dScope sf).names.lookup x == some .local) = true) (hnd : xs.Nodup)
    (hbody : Sx G ⟨k, q, dScope sf, fa, cdv, [], none⟩ (xs.zip vs) σ (dBody sf) fl m' σ')
    (hcell : ((dScope sf).names.all fun x => x.2 != .cell) = true) (hco : (dScope sf).isCoroutine = false) (hgen : (dScope sf).isGenerator = false) (hk : (dScope sf).kind = .function) (hr : retOf fl = v) :
    Cl G (k + 1) (.ref fa) vs σ v σ' := hr ▸ fun c F ω m s args' hle S hv Q E p =>
  wpAny_call (code_in ho hcd hbind hloc hnd hbody hcell hco hgen hk (Nat.lt_of_succ_le hle) S rfl rfl (by have := S.hD; omega) (by have := S.hU; omega) hv fun ω' v' h' tk' l1 S' hv' => p ω' v' h' tk' l1 S' hv')
end
end SM8
section SM10
open PySem PySem.W PySem.Calls PyProof.Rows PySem.Spec
mutual
noncomputable def pyd : AV → PyData
  | .none => .none
  | .bool b => .bool b
  | .int i => .int i
  | .str x => .str x
  | .tup vs => .tuple (pyds vs)
  | .loc _ => .none
  | .glob _ => .none
noncomputable def pyds : List AV → List PyData
  | [] => []
  | v :: vs => pyd v :: pyds vs
end
mutual
noncomputable def pl : Nat → AV → Bool
  | _, .none => true
  | _, .bool _ => true
  | _, .int _ => true
  | _, .str x => PyData.strOk x
  | n + 1, .tup vs => pls n vs
  | _, _ => false
noncomputable def pls : Nat → List AV → Bool
  | _, [] => true
  | n, v :: vs => pl n v && pls n vs
end
theorem pls_iff {n : Nat} : ∀ {vs : List AV}, pls n vs = true ↔ ∀ v ∈ vs, pl n v = true
  | [] => by simp [pls]
  | v :: vs => by simp [pls, pls_iff (vs := vs)]
theorem pyds_map : ∀ {vs : List AV}, pyds vs = vs.map pyd
  | [] => rfl
  | v :: vs => by simp [pyds, pyds_map (vs := vs)]
mutual
theorem pl_lay : ∀ {n : Nat} {v : AV}, pl n v = true → (pyd v).canLay0 = true ∧ (pyd v).depth ≤ n
  | n, .none, _ => by simp [pyd, PyData.canLay0, PyData.depth]
  | n, .bool b, _ => by simp [pyd, PyData.canLay0, PyData.depth]
  | n, .int i, _ => by simp [pyd, PyData.canLay0, PyData.depth]
  | n, .str x, h => by
    have : PyData.strOk x = true := by cases n <;> exact h
    simp [pyd, PyData.canLay0, PyData.depth, this]
  | 0, .tup vs, h => by simp [pl] at h
  | n + 1, .tup vs, h => by
    have q := pls_lay (n := n) (vs := vs) h
    simp only [pyd, PyData.canLay0, PyData.depth, q.1, true_and]
    have := q.2
    omega
  | 0, .loc _, h => by simp [pl] at h
  | n + 1, .loc _, h => by simp [pl] at h
  | 0, .glob _, h => by simp [pl] at h
  | n + 1, .glob _, h => by simp [pl] at h
theorem pls_lay : ∀ {n : Nat} {vs : List AV}, pls n vs = true → PyData.canLayAll0 (pyds vs) = true ∧ PyData.depthAll (pyds vs) ≤ n
  | _, [], _ => by simp [pyds, PyData.canLayAll0, PyData.depthAll]
  | n, v :: vs, h => by
    simp only [pls, Bool.and_eq_true] at h
    have q1 := pl_lay h.1
    have q2 := pls_lay h.2
    simp only [pyds, PyData.canLayAll0, PyData.depthAll, q1.1, q2.1, Bool.and_self, true_and]
    have a1 := q1.2
    have a2 := q2.2
    omega
end
mutual
theorem eqv_refl : ∀ {n : Nat} {v : AV}, pl n v = true → PyData.eqv (pyd v) (pyd v) = true
  | n, .none, _ => by simp [pyd, PyData.eqv]
  | n, .bool b, _ => by simp [pyd, PyData.eqv]
  | n, .int i, _ => by simp [pyd, PyData.eqv]
  | n, .str x, h => by simp [pyd, PyData.eqv]
  | 0, .tup vs, h => by simp [pl] at h
  | n + 1, .tup vs, h => by
    simp only [pyd, PyData.eqv]
    exact eqv_refls (n := n) (vs := vs) h
  | 0, .loc _, h => by simp [pl] at h
  | n + 1, .loc _, h => by simp [pl] at h
  | 0, .glob _, h => by simp [pl] at h
  | n + 1, .glob _, h => by simp [pl] at h
theorem eqv_refls : ∀ {n : Nat} {vs : List AV}, pls n vs = true → PyData.eqvAll (pyds vs) (pyds vs) = true
  | _, [], _ => by simp [pyds, PyData.eqvAll]
  | n, v :: vs, h => by
    simp only [pls, Bool.and_eq_true] at h
    simp only [pyds, PyData.eqvAll, eqv_refl h.1, eqv_refls h.2, Bool.and_self]
end
theorem eqvAll_nil {ds : List PyData} : PyData.eqvAll ds [] = ds.isEmpty := by cases ds <;> simp [PyData.eqvAll]

section
variable {G : Gl} {c : Cx} {F : Fm} {ω ω' : Wd} {m m₁ m' : List (PySem.Str × AV)} {σ σ₁ σ₂ σ₃ σ' : List AO} {e l r : Expr} {pos pos' : Pos} {v a b : AV} {st : Stmt} {ss : List Stmt} {fl : AF} {x : PySem.Str} {es : List Expr} {vs ws : List AV} {f : Value}
theorem VR.reads {h : Heap} (S : St G c F ω m σ h) {v : AV} {v' : Value} (n : Nat) (hv : VR G.K ω v v') (hk : pl n v = true) : ∃ as, Reads h v' (pyd v) as := by
  refine VR.rec (motive_1 := fun v v' _ => ∀ n, pl n v = true → ∃ as, Reads h v' (pyd v) as) (motive_2 := fun vs ws _ => ∀ n, pls n vs = true → ∃ as, ReadsAll h ws (pyds vs) as)
    (fun _ _ => ⟨_, Reads.none⟩) (fun b _ _ => ⟨_, Reads.bool b⟩) (fun i t _ _ => ⟨_, Reads.int i t⟩) (fun x t _ _ => ⟨_, Reads.str x t⟩) (fun hm r ih n hk => ?_) (fun hm r ih n hk => ?_) (fun _ n hk => ?_) (fun _ n hk => ?_) (fun _ _ => ⟨_, ReadsAll.nil⟩) (fun hd r i1 i2 n hk => ?_) hv n hk
  · cases n with
    | zero => simp [pl] at hk
    | succ n =>
      obtain ⟨as, q⟩ := ih n hk
      rw [pyd]
      exact ⟨as, reads_tuple_at (S.tAt hm) rfl rfl (by simpa using q)⟩
  · cases n with
    | zero => simp [pl] at hk
    | succ n =>
      obtain ⟨as, q⟩ := ih n hk
      rw [pyd]
      exact ⟨as, reads_tuple_at (S.KIn _ _ hm) rfl rfl (by simpa using q)⟩
  · cases n <;> simp [pl] at hk
  · cases n <;> simp [pl] at hk
  · simp only [pls, Bool.and_eq_true] at hk
    obtain ⟨as, q⟩ := i1 n hk.1
    obtain ⟨bs, p⟩ := i2 n hk.2
    rw [pyds]
    exact ⟨_, ReadsAll.cons q p⟩
theorem VRs.reads {h : Heap} (S : St G c F ω m σ h) {vs : List AV} {ws : List Value} (n : Nat) (hv : VRs G.K ω vs ws) : pls n vs = true → ∃ as, ReadsAll h ws (pyds vs) as :=
  hv.ind (P := fun vs ws => pls n vs = true → ∃ as, ReadsAll h ws (pyds vs) as) (fun _ => ⟨_, ReadsAll.nil⟩) fun hd _ ih hk => by
    simp only [pls, Bool.and_eq_true] at hk
    obtain ⟨as, q⟩ := VR.reads S n hd hk.1
    obtain ⟨bs, p⟩ := ih hk.2
    rw [pyds]
    exact ⟨_, ReadsAll.cons q p⟩
/-- what is read of a value -/
noncomputable def Rd (G : Gl) (σ : List AO) (a : AV) (d : PyData) : Prop :=
  d.canLay0 = true ∧ d.depth ≤ 20 ∧ ∀ c F ω m h a', St G c F ω m σ h → VR G.K ω a a' → ∃ as, Reads h a' d as
theorem rd_val (h : pl 9 a = true) : Rd G σ a (pyd a) := ⟨(pl_lay h).1, by have := (pl_lay h).2; omega, fun c F ω m h' a' S r => VR.reads S 9 r h⟩
theorem rd_list {i : Nat} (hi : σ[i]? = some (.list vs)) (h : pls 9 vs = true) : Rd G σ (.loc i) (.list (pyds vs)) := by
  refine ⟨?_, ?_, fun c F ω m h' a' S r => ?_⟩
  · simp only [PyData.canLay0]; exact (pls_lay h).1
  · simp only [PyData.depth]; have := (pls_lay h).2; omega
  · replace r := r.m
    obtain ⟨_, rfl, ha⟩ := r
    obtain ⟨o, ho, hr⟩ := S.atL hi ha
    replace hr := hr.m
    obtain ⟨_, _, rfl, hw⟩ := hr
    obtain ⟨as, q⟩ := VRs.reads S 9 hw h
    exact ⟨_, reads_list_at ho rfl rfl (by simpa using q)⟩
theorem Rd.shaped {d : PyData} (h : Rd G σ a d) : SeqAt.shaped d = true := by
  unfold SeqAt.shaped; rw [h.1, Bool.true_and]; exact decide_eq_true (Nat.le_trans h.2.1 (by decide))
theorem op_eqd {d d' : PyData} {y : Bool} (ha : Rd G σ a d) (hb : Rd G σ b d') (hy : PyData.eqv d d' = y) : Op2 G (compareOp .Eq) σ a b (.bool y) σ := fun c F ω m s a' b' S ra rb Q E p => by
  obtain ⟨as, q⟩ := ha.2.2 c F ω m _ a' S ra
  obtain ⟨bs, q'⟩ := hb.2.2 c F ω m _ b' S rb
  exact eq_dataH q q' ha.shaped hb.shaped (by have := S.hU; show F.A.units + 64 < 9900; omega) (by rw [hy]; exact p.here S (.bool _))
theorem op_ned {d d' : PyData} {y : Bool} (ha : Rd G σ a d) (hb : Rd G σ b d') (hy : (!PyData.eqv d d') = y) : Op2 G (compareOp .NotEq) σ a b (.bool y) σ := fun c F ω m s a' b' S ra rb Q E p => by
  obtain ⟨as, q⟩ := ha.2.2 c F ω m _ a' S ra
  obtain ⟨bs, q'⟩ := hb.2.2 c F ω m _ b' S rb
  exact ne_dataH q q' ha.shaped hb.shaped (by have := S.hU; show F.A.units + 64 < 9900; omega) (by rw [hy]; exact p.here S (.bool _))
theorem op_ind {d : PyData} {xs : List PyData} {y : Bool} (ha : Rd G σ a d) (hb : Rd G σ b (.list xs)) (hy : (xs.any fun z => PyData.eqv z d) = y) : Op2 G (compareOp .In) σ a b (.bool y) σ := fun c F ω m s a' b' S ra rb Q E p => by
  obtain ⟨as, q⟩ := ha.2.2 c F ω m _ a' S ra
  obtain ⟨bs, q'⟩ := hb.2.2 c F ω m _ b' S rb
  have l := hb.1
  have l2 := ha.2.1
  have l3 := S.hU
  have l4 := Nat.min_le_right (PyData.depthAll xs) d.depth
  simp only [PyData.canLay0] at l
  exact SeqAt.in_list_reads q' q l ha.1 (by show F.A.units + 1 + min _ _ < 9900; omega) (by rw [hy]; exact p.here S (.bool _))
theorem op_notind {d : PyData} {xs : List PyData} {y : Bool} (ha : Rd G σ a d) (hb : Rd G σ b (.list xs)) (hy : (!xs.any fun z => PyData.eqv z d) = y) : Op2 G (compareOp .NotIn) σ a b (.bool y) σ := fun c F ω m s a' b' S ra rb Q E p => by
  obtain ⟨as, q⟩ := ha.2.2 c F ω m _ a' S ra
  obtain ⟨bs, q'⟩ := hb.2.2 c F ω m _ b' S rb
  have l := hb.1
  have l2 := ha.2.1
  have l3 := S.hU
  have l4 := Nat.min_le_right (PyData.depthAll xs) d.depth
  simp only [PyData.canLay0] at l
  exact SeqAt.notIn_list_reads q' q l ha.1 (by show F.A.units + 1 + min _ _ < 9900; omega) (by rw [hy]; exact p.here S (.bool _))
theorem op_indT {d : PyData} {xs : List PyData} {y : Bool} (ha : Rd G σ a d) (hb : Rd G σ b (.tuple xs)) (hy : (xs.any fun z => PyData.eqv z d) = y) : Op2 G (compareOp .In) σ a b (.bool y) σ := fun c F ω m s a' b' S ra rb Q E p => by
  obtain ⟨as, q⟩ := ha.2.2 c F ω m _ a' S ra
  obtain ⟨bs, q'⟩ := hb.2.2 c F ω m _ b' S rb
  have l := hb.1
  have l2 := ha.2.1
  have l3 := S.hU
  have l4 := Nat.min_le_right (PyData.depthAll xs) d.depth
  simp only [PyData.canLay0] at l
  exact SeqAt.in_tuple_reads q' q l ha.1 (by show F.A.units + 1 + min _ _ < 9900; omega) (by rw [hy]; exact p.here S (.bool _))
theorem op_notindT {d : PyData} {xs : List PyData} {y : Bool} (ha : Rd G σ a d) (hb : Rd G σ b (.tuple xs)) (hy : (!xs.any fun z => PyData.eqv z d) = y) : Op2 G (compareOp .NotIn) σ a b (.bool y) σ := fun c F ω m s a' b' S ra rb Q E p => by
  obtain ⟨as, q⟩ := ha.2.2 c F ω m _ a' S ra
  obtain ⟨bs, q'⟩ := hb.2.2 c F ω m _ b' S rb
  have l := hb.1
  have l2 := ha.2.1
  have l3 := S.hU
  have l4 := Nat.min_le_right (PyData.depthAll xs) d.depth
  simp only [PyData.canLay0] at l
  exact SeqAt.notIn_tuple_reads q' q l ha.1 (by show F.A.units + 1 + min _ _ < 9900; omega) (by rw [hy]; exact p.here S (.bool _))
end
end SM10
section SM11
noncomputable def scopeOf (c : Cx) : Scope := match c.blk with | none => c.cs | some b => b.sc
noncomputable def cellsOf (c : Cx) : List (PySem.Str × Nat) := match c.blk with | none => c.cells | some b => b.cells
noncomputable def clOf (c : Cx) (F : Fm) : List (PySem.Str × Addr) := match c.blk with | none => F.cl | some _ => F.bcl

section
variable {G : Gl} {c : Cx} {F : Fm} {ω ω' : Wd} {m m₁ m' : List (PySem.Str × AV)} {σ σ₁ σ₂ σ₃ σ₄ σ₅ σ' : List AO} {e l r : Expr} {pos pos' : Pos} {v a b u it : AV} {st : Stmt} {ss : List Stmt} {fl : AF} {x : PySem.Str} {es : List Expr} {vs : List AV} {f : Value} {h : Heap}

theorem ev_scope : (ev c F).scope = scopeOf c := by unfold ev scopeOf; cases c.blk <;> rfl
theorem ev_cells : (ev c F).cells = clOf c F := by unfold ev clOf; cases c.blk <;> rfl
theorem ev_globals : (ev c F).globals = mainGlobals := by unfold ev; cases c.blk <;> rfl
theorem ev_builtins : (ev c F).builtins = builtinsNs := by unfold ev; cases c.blk <;> rfl
theorem St.kind (S : St G c F ω m σ h) : (ev c F).scope.kind = .function := by
  rw [ev_scope]; unfold scopeOf
  cases q : c.blk with
  | none => exact S.hK
  | some b => exact (S.blk b q).1
theorem St.cells (S : St G c F ω m σ h) : CelR ω (cellsOf c) (ev c F).cells := by
  rw [ev_cells]; unfold clOf cellsOf
  cases q : c.blk with
  | none => exact S.cel
  | some b => exact (S.blk b q).2.2
theorem ev_kind (hx : (scopeOf c).names.lookup x = some k) : (ev c F).kindOf x = some k := by
  show (ev c F).scope.names.lookup x = _
  rw [ev_scope]; exact hx

/-! names, in a frame or in a block -/
theorem ev_cellB {i : Nat} (hx : (scopeOf c).names.lookup x = some .cell) (hi : lkN x (cellsOf c) = some i) (hv : σ[i]? = some (.cell (some v))) (hd : (x == ("__debug__" : PySem.Str)) = false := by decide +kernel) :
    Ev G c m σ (.Name x pos) v σ := fun F ω s S Q E p => by
  obtain ⟨a, ha, hi'⟩ := S.cells.lookup hi
  obtain ⟨o, ho, hr⟩ := S.atL hv hi'
  replace hr := hr.m
  obtain ⟨_, h1, h2⟩ := hr
  exact wpAny_Name (wpAny_loadName_cell S.kind (ev_kind hx) ha ⟨o, ho, h1⟩ (p.here S h2)) hd
theorem ev_globalB {x : PySem.Str} {v' : Value} (hx : (scopeOf c).names.lookup x = some .globalImplicit) (hn : nsIn G.K mainGlobals x = some (some v')) (hr : ∀ ω, VR G.K ω v v') (hd : (x == ("__debug__" : PySem.Str)) = false := by decide +kernel) :
    Ev G c m σ (.Name x pos) v σ := fun F ω s S Q E p => by
  obtain ⟨M, Fh, hM⟩ := S.lo
  refine Name_function_global S.kind (ev_kind hx) (loadGlobal_global (mg := G.mg) ?_ (mg_of S.X S.T.g hn) (p.here S (hr ω))) hd
  rw [ev_globals]; exact S.T.g.keeps Fh.keep
theorem ev_builtinB {x : PySem.Str} {v' : Value} (hx : (scopeOf c).names.lookup x = some .globalImplicit) (hn : nsIn G.K mainGlobals x = some none) (hv : bootBuiltins x = some v') (hne : x ≠ "__name__") (hd : (x == ("__debug__" : PySem.Str)) = false := by decide +kernel) :
    Ev G c m σ (.Name x pos) (.glob v') σ := fun F ω s S Q E p => by
  obtain ⟨M, Fh, hM⟩ := S.lo
  have T' := topRead_of S.T
  refine Name_function_global S.kind (ev_kind hx) (loadGlobal_builtin (mg := G.mg) (mb := G.mb) ?_ (mg_none_of S.X S.T.g hn) ?_ ((T'.builtins x hne).trans hv) (p.here S (.glob _))) hd
  · rw [ev_globals]; exact S.T.g.keeps Fh.keep
  · rw [ev_builtins]; exact T'.b.keeps Fh.keep
theorem ev_localB {bk : Blk} {mb : List (PySem.Str × AV)} (hb : c.blk = some bk) (hx : bk.sc.names.lookup x = some .local) (hn : σ[bk.l]? = some (.ns mb)) (hv : lk x mb = some v) (hd : (x == ("__debug__" : PySem.Str)) = false := by decide +kernel) :
    Ev G c m σ (.Name x pos) v σ := fun F ω s S Q E p => by
  obtain ⟨b1, b2, b3⟩ := S.blk bk hb
  obtain ⟨o, ho, hr⟩ := S.atL hn b2
  have hs : scopeOf c = bk.sc := by unfold scopeOf; rw [hb]
  have hl : (ev c F).locals = F.C := by unfold ev; rw [hb]
  replace hr := hr.m
  obtain ⟨_, _, _, h1, h2, h3, h4⟩ := hr
  obtain ⟨v', h5, h6⟩ := h4 x v hv
  refine wpAny_Name (wpAny_loadName_local S.kind (ev_kind (by rw [hs]; exact hx)) (m := _) ?_ h5 (p.here S h6)) hd
  rw [hl]
  exact ⟨o, _, _, ho, h1, h2, fun n => by rw [h3]⟩
theorem sn_cellB {i : Nat} {v₀ : Option AV} (hx : (scopeOf c).names.lookup x = some .cell) (hi : lkN x (cellsOf c) = some i) (ho : σ[i]? = some (.cell v₀)) : Sn G c m σ x v m (σ.set i (.cell (some v))) := fun F ω s v' S hv Q E p => by
  obtain ⟨a, ha, hi'⟩ := S.cells.lookup hi
  obtain ⟨o, ho', hr⟩ := S.atL ho hi'
  have hd : ∃ w, o.data = .cell w := by cases hr with
    | cell h1 h2 => exact ⟨_, h1⟩
    | cell0 h1 => exact ⟨_, h1⟩
  obtain ⟨w₀, hd⟩ := hd
  exact wpAny_storeName_cellS S.kind (ev_kind hx) ha ho' hd fun h' o' h1 h2 h3 => p h' s.toks (S.upd ho hi' h3 h1 (.cell h2 hv))
theorem sn_block {bk : Blk} {mb : List (PySem.Str × AV)} (hb : c.blk = some bk) (hx : bk.sc.names.lookup x = some .local) (hn : σ[bk.l]? = some (.ns mb)) : Sn G c m σ x v m (σ.set bk.l (.ns (put x v mb))) := fun F ω s v' S hv Q E p => by
  obtain ⟨b1, b2, b3⟩ := S.blk bk hb
  obtain ⟨o, ho, hr⟩ := S.atL hn b2
  have hs : scopeOf c = bk.sc := by unfold scopeOf; rw [hb]
  have hl : (ev c F).locals = F.C := by unfold ev; rw [hb]
  have hk := S.kind
  replace hr := hr.m
  obtain ⟨_, _, _, h1, h2, h3, h4⟩ := hr
  refine wpAny_storeName_local (ev_kind (by rw [hs]; exact hx)) (m := _) (by rw [hl]; exact ⟨o, _, _, ho, h1, h2, fun n => by rw [h3]⟩) (fun h' hn' hs' => ?_) (by rw [hk]; rfl)
  rw [hl] at hn' hs'
  obtain ⟨o', es', ep', ho', hd', hk', hf'⟩ := hn'
  refine p h' _ (S.upd hn b2 hs' ho' (.ns (M := fun y => if y = x then some v' else _) hd' hk' (funext hf') fun y w e => ?_))
  rw [lk_put] at e
  by_cases q : y = x
  · rw [if_pos q] at e; cases e
    exact ⟨v', by simp only [if_pos q], hv⟩
  · rw [if_neg q] at e
    obtain ⟨u', g1, g2⟩ := h4 y w e
    exact ⟨u', by simp only [if_neg q]; exact g1, g2⟩

/-! targets -/
noncomputable def As (G : Gl) (c : Cx) (m : List (PySem.Str × AV)) (σ : List AO) (tg : Expr) (v : AV) (m' : List (PySem.Str × AV)) (σ' : List AO) : Prop :=
  ∀ F ω s v', St G c F ω m σ s.heap → VR G.K ω v v' → ∀ (Q : Unit → Shared → Prop) E, (∀ ω' h' tk', ω.le ω' → St G c F ω' m' σ' h' → Q () { s with heap := h', toks := tk' }) → wpAny (model P0 G.w) F.A (assign tg (ev c F) v') Q E s
theorem as_name (h : Sn G c m σ x v m' σ') : As G c m σ (.Name x pos) v m' σ' := fun F ω s v' S hv Q E p =>
  wpAny_assign_Name (h F ω s v' S hv Q E fun h' tk' S' => p ω h' tk' (.refl ω) S')
/-- the targets of an unpacking, one after the other -/
noncomputable def Ass (G : Gl) (c : Cx) (m : List (PySem.Str × AV)) (σ : List AO) (tgs : List Expr) (vs : List AV) (m' : List (PySem.Str × AV)) (σ' : List AO) : Prop :=
  ∀ F ω s ws, St G c F ω m σ s.heap → VRs G.K ω vs ws → ∀ (Q : Unit → Shared → Prop) E, (∀ ω' h' tk', ω.le ω' → St G c F ω' m' σ' h' → Q () { s with heap := h', toks := tk' }) →
    wpAny (model P0 G.w) F.A (assignInOrder ((assignEach tgs (ev c F)).map (·.2)) ws) Q E s
theorem ass_nil : Ass G c m σ [] [] m σ := fun F ω s ws S hv Q E p => by
  cases hv
  exact wpAny_pure (p ω s.heap s.toks (.refl ω) S)
theorem ass_cons {t : Expr} {ts : List Expr} (h1 : As G c m σ t v m₁ σ₁) (h2 : Ass G c m₁ σ₁ ts vs m' σ') (he : ∀ env, assignEach (t :: ts) env = (false, assign t env) :: assignEach ts env := by ked_read) : Ass G c m σ (t :: ts) (v :: vs) m' σ' := fun F ω s ws S hv Q E p => by
  cases hv with
  | cons hv hvs =>
    rw [he]
    show wpAny _ _ (assignInOrder (assign t (ev c F) :: _) (_ :: _)) _ _ _
    unfold assignInOrder
    first
    | exact wpAny_bind (wpAny_holding (h1 F ω s _ S hv _ E fun ω₁ h₁ t₁ l1 S₁ => h2 F ω₁ _ _ S₁ (hvs.mono l1) Q E fun ω₂ h₂ t₂ l2 S₂ => p ω₂ h₂ t₂ (l1.trans l2) S₂))
    | exact wpAny_bind (h1 F ω s _ S hv _ E fun ω₁ h₁ t₁ l1 S₁ => h2 F ω₁ _ _ S₁ (hvs.mono l1) Q E fun ω₂ h₂ t₂ l2 S₂ => p ω₂ h₂ t₂ (l1.trans l2) S₂)
theorem as_tuple {tgs : List Expr} {k : Nat} (h : Ass G c m σ tgs vs m' σ') (hl : ∀ env, (assignEach tgs env).length = vs.length := by ked_read) (hs : ∀ env, (assignEach tgs env).findIdx? (·.1) = none := by ked_read) :
    As G c m σ (.Tuple tgs k pos) (.tup vs) m' σ' := fun F ω s v' S hv Q E p => by
  obtain ⟨y, ws, n, rfl, ht, hw⟩ := S.tup hv
  refine wpAny_assign_Tuple S.hH ⟨_, ht, rfl, n, rfl⟩ (by rw [hl, List.size_toArray, hw.length]) (hs _) fun h' hk => ?_
  have S' := S.grow (h' := h') fun b o e => hk b o (Nat.ne_of_lt (Heap.lt_size e)) e
  exact h F ω _ ws S' hw Q E fun ω' h'' tk' l1 S'' => p ω' h'' tk' l1 S''
end
end SM11
section SM12
section
variable {G : Gl} {c : Cx} {F : Fm} {ω ω' : Wd} {m m₁ m₂ m' : List (PySem.Str × AV)} {σ σ₁ σ₂ σ₃ σ₄ σ₅ σ' : List AO} {e l r tg : Expr} {pos pos' : Pos} {v a b u it : AV} {st : Stmt} {ss : List Stmt} {fl : AF} {x : PySem.Str} {es : List Expr} {vs : List AV} {f : Value} {h : Heap}

/-- the next item is drawn and laid into the target -/
noncomputable def Dr (G : Gl) (c : Cx) (m : List (PySem.Str × AV)) (σ : List AO) (tg : Expr) (it : AV) (m' : List (PySem.Str × AV)) (σ' : List AO) : Prop :=
  ∀ F ω s it', St G c F ω m σ s.heap → VR G.K ω it it' → ∀ (Q : Unit → Shared → Prop) E, (∀ ω' h' tk', ω.le ω' → St G c F ω' m' σ' h' → Q () { s with heap := h', toks := tk' }) →
    wpAny (model P0 G.w) F.A (pyNext it') (fun r s₁ => match r with
      | none => False
      | some v' => wpAny (model P0 G.w) F.A (letOwnedTupleGo tg it' v') (fun _ s₂ => wpAny (model P0 G.w) F.A (assign tg (ev c F) v') Q E s₂) E s₁) E s
/-- there is no next item -/
noncomputable def Nd (G : Gl) (σ : List AO) (it : AV) (σ' : List AO) : Prop :=
  ∀ c F ω m s it', St G c F ω m σ s.heap → VR G.K ω it it' → ∀ (Q : Option Value → Shared → Prop) E, (∀ ω' h' tk', ω.le ω' → St G c F ω' m σ' h' → Q none { s with heap := h', toks := tk' }) →
    wpAny (model P0 G.w) F.A (pyNext it') Q E s
/-- an iterator is made -/
noncomputable def Pi (G : Gl) (σ : List AO) (a it : AV) (σ' : List AO) : Prop :=
  ∀ c F ω m s a', St G c F ω m σ s.heap → VR G.K ω a a' → ∀ Q E, Po G c F ω m s it σ' Q → wpAny (model P0 G.w) F.A (pyIter a') Q E s

theorem dr_list {i j k : Nat} (hi : σ[i]? = some (.lit j k)) (hj : σ[j]? = some (.list vs)) (hx : vs[k]? = some v) (ha : As G c m (σ.set i (.lit j (k + 1))) tg v m' σ') (ht : ∀ it v, letOwnedTupleGo tg it v = pure () := by ked_read) :
    Dr G c m σ tg (.loc i) m' σ' := fun F ω s it' S hv Q E p => by
  replace hv := hv.m
  obtain ⟨y, rfl, hy⟩ := hv
  obtain ⟨o, ho, hr⟩ := S.atL hi hy
  replace hr := hr.m
  obtain ⟨_, l1, l2, l3⟩ := hr
  obtain ⟨oj, hoj, hrj⟩ := S.atL hj l1
  replace hrj := hrj.m
  obtain ⟨_, _, rfl, hw⟩ := hrj
  obtain ⟨v', hv', hrv⟩ := hw.get hx
  refine wpAny_pyNext_list_item (items := _) ⟨o, ho, l2, l3⟩ (isList_of hoj) (by simpa using hv') fun h' hit hs => ?_
  show wpAny _ _ (letOwnedTupleGo tg _ v') _ _ _
  refine wpAny_of_eq (ht _ _) ?_
  obtain ⟨o', ho', l2', l3'⟩ := hit
  exact ha F ω _ v' (S.upd hi hy hs ho' (.lit l1 l2' l3')) hrv Q E fun ω' h'' tk' l S' => p ω' h'' tk' l S'
theorem dr_listT {i j k n : Nat} {tgs : List Expr} {ws : List AV} (hi : σ[i]? = some (.lit j k)) (hj : σ[j]? = some (.list vs)) (hx : vs[k]? = some (.tup ws)) (ha : As G c m (σ.set i (.lit j (k + 1))) (.Tuple tgs n pos) (.tup ws) m' σ') :
    Dr G c m σ (.Tuple tgs n pos) (.loc i) m' σ' := fun F ω s it' S hv Q E p => by
  replace hv := hv.m
  obtain ⟨y, rfl, hy⟩ := hv
  obtain ⟨o, ho, hr⟩ := S.atL hi hy
  replace hr := hr.m
  obtain ⟨_, l1, l2, l3⟩ := hr
  obtain ⟨oj, hoj, hrj⟩ := S.atL hj l1
  replace hrj := hrj.m
  obtain ⟨_, _, rfl, hw⟩ := hrj
  obtain ⟨v', hv', hrv⟩ := hw.get hx
  refine wpAny_pyNext_list_item (items := _) ⟨o, ho, l2, l3⟩ (isList_of hoj) (by simpa using hv') fun h' hit hs => ?_
  show wpAny _ _ (letOwnedTupleGo _ _ v') _ _ _
  obtain ⟨z, _, _, rfl, _, _⟩ := S.tup hrv
  refine wpAny_letOwnedTupleGo_listiter hit ?_
  obtain ⟨o', ho', l2', l3'⟩ := hit
  exact ha F ω _ _ (S.upd hi hy hs ho' (.lit l1 l2' l3')) hrv Q E fun ω' h'' tk' l S' => p ω' h'' tk' l S'
theorem nd_list {i j k : Nat} (hi : σ[i]? = some (.lit j k)) (hj : σ[j]? = some (.list vs)) (hx : vs[k]? = none) : Nd G σ (.loc i) (σ.set i .dead) := fun c F ω m s it' S hv Q E p => by
  replace hv := hv.m
  obtain ⟨y, rfl, hy⟩ := hv
  obtain ⟨o, ho, hr⟩ := S.atL hi hy
  replace hr := hr.m
  obtain ⟨_, l1, l2, l3⟩ := hr
  obtain ⟨oj, hoj, hrj⟩ := S.atL hj l1
  replace hrj := hrj.m
  obtain ⟨_, _, rfl, hw⟩ := hrj
  refine wpAny_pyNext_list_end S.hH ⟨o, ho, l2, l3⟩ (isList_of hoj) ?_ fun h' hk => ?_
  · have h1 : vs.length ≤ k := List.getElem?_eq_none_iff.mp hx
    rw [List.getElem?_toArray]
    exact List.getElem?_eq_none_iff.mpr (by rw [hw.length]; exact h1)
  · exact p ω h' s.toks (.refl ω) (S.kill hi hy hk)
theorem pi_list {i n : Nat} (hi : σ[i]? = some (.list vs)) (hn : σ.length = n) : Pi G σ (.loc i) (.loc n) (σ ++ [.lit i 0]) := fun c F ω m s a' S hv Q E p => by
  subst hn
  obtain ⟨y, ws, n, rfl, hy, hl, hw⟩ := S.lst hi hv
  refine wpAny_pyIter_list (isList_of hl) ?_
  obtain ⟨S₂, h2⟩ := S.pushed (o := { cls := .type "list_iterator", data := .fields #[.ref y, .int 0 0] }) (y := .lit i 0) rfl (.lit ((Wd.le_push ω _).at hy) rfl rfl)
  exact p _ _ _ s.toks (Wd.le_push _ _) S₂ (.loc h2)

theorem dr_range {i : Nat} {y k : Int} (hi : σ[i]? = some (.rit y k)) (hk : 0 < k) (ha : As G c m (σ.set i (.rit (y + 1) (k - 1))) tg (.int y) m' σ') (ht : ∀ it v, letOwnedTupleGo tg it v = pure () := by ked_read) :
    Dr G c m σ tg (.loc i) m' σ' := fun F ω s it' S hv Q E p => by
  replace hv := hv.m
  obtain ⟨z, rfl, hz⟩ := hv
  obtain ⟨o, ho, hr⟩ := S.atL hi hz
  replace hr := hr.m
  have e : _ = _ := hr
  subst e
  refine wpAny_pyNext_range_item (x := y) (left := k) (step := 1) ho hk fun h' hit hs => ?_
  show wpAny _ _ (letOwnedTupleGo tg _ _) _ _ _
  refine wpAny_of_eq (ht _ _) ?_
  exact ha F ω _ _ (S.upd hi hz hs hit (.rit rfl)) (.int _ _) Q E fun ω' h'' tk' l S' => p ω' h'' tk' l S'
theorem nd_range {i : Nat} {y k : Int} (hi : σ[i]? = some (.rit y k)) (hk : k ≤ 0) : Nd G σ (.loc i) (σ.set i .dead) := fun c F ω m s it' S hv Q E p => by
  replace hv := hv.m
  obtain ⟨z, rfl, hz⟩ := hv
  obtain ⟨o, ho, hr⟩ := S.atL hi hz
  replace hr := hr.m
  have e : _ = _ := hr
  subst e
  exact wpAny_pyNext_range_end S.hH ho hk fun h' hk' => p ω h' s.toks (.refl ω) (S.kill hi hz hk')
theorem range_len {k : Int} (h : 0 ≤ k) : Builtin.Range.rangeSize 0 k 1 = k := by
  unfold Builtin.Range.rangeSize
  rw [if_pos (by decide)]
  split
  · simp only [Int.ediv_one]; omega
  · omega
theorem range_small {k : Int} (h : 0 ≤ k) (h2 : k < 1000000) : Builtin.Range.small 0 k 1 = true := by
  have f : ∀ j : Int, -1000000 ≤ j → j ≤ 1000001 → Builtin.Range.rangeFitsLong j = true := fun j h1 h2 => by
    unfold Builtin.Range.rangeFitsLong
    simp
    omega
  unfold Builtin.Range.small
  rw [range_len h, f 0 (by decide) (by decide), f k (by omega) (by omega), f 1 (by decide) (by decide), if_pos (by decide), f (k + (1 - 1)) (by omega) (by omega)]
  simp
theorem pi_range {i n : Nat} {k : Int} (hi : σ[i]? = some (.rng k)) (h0 : 0 ≤ k) (h1 : k < 1000000) (hn : σ.length = n) : Pi G σ (.loc i) (.loc n) (σ ++ [.rit 0 k]) := fun c F ω m s a' S hv Q E p => by
  subst hn
  replace hv := hv.m
  obtain ⟨z, rfl, hz⟩ := hv
  obtain ⟨o, ho, hr⟩ := S.atL hi hz
  replace hr := hr.m
  obtain ⟨_, _, _, rfl⟩ := hr
  refine wpAny_pyIter_range ho (range_small h0 h1) ?_
  rw [range_len h0]
  obtain ⟨S₂, h2⟩ := S.pushed (o := itR 0 k) (y := .rit 0 k) rfl (.rit rfl)
  exact p _ _ _ s.toks (Wd.le_push _ _) S₂ (.loc h2)
theorem cl_range {n : Nat} {k : Int} (hn : σ.length = n) : Cl G 0 (.type "range") [.int k] σ (.loc n) (σ ++ [.rng k]) := fun c F ω m s args' hk S hv Q E p => by
  subst hn
  obtain ⟨a', rfl, ha⟩ := hv.one
  replace ha := ha.m
  obtain ⟨t, rfl⟩ := ha
  refine call_range_1 ?_
  obtain ⟨S₂, h2⟩ := S.pushed (o := { cls := .type "range", dict := none, data := .fields #[.int 0 s.toks, .int k t, .int 1 (s.toks + 1)], slots := #[] }) (y := .rng k) rfl .rng
  exact p _ _ _ _ (Wd.le_push _ _) S₂ (.loc h2)
end
end SM12
section SM13
section
variable {w : World} {A : Around} {R : Result → Shared → Prop} {s : Shared} {env : Env}
theorem for_step {tg : Expr} {it' : Value} {body : List Stmt}
    (h : wpAny (model P0 w) A (pyNext it') (fun r s₁ => match r with
      | none => R (.ok .next) s₁
      | some v => wpAny (model P0 w) A (letOwnedTupleGo tg it' v) (fun _ s₂ => wpAny (model P0 w) A (assign tg env v) (fun _ s₃ => wpAny (model P0 w) A (execs body env) (fun f s₄ => match f with
          | .next | .cont => codeAny (model P0 w) A (.forLoop tg it' body [] env) R s₄
          | .brk => R (.ok .next) s₄
          | .ret v => R (.ok (.ret v)) s₄) (notedBy (model P0 w) A env fun e s' => R (.error e) s') s₃) (notedBy (model P0 w) A env fun e s' => R (.error e) s') s₂) (notedBy (model P0 w) A env fun e s' => R (.error e) s') s₁)
      (notedBy (model P0 w) A env fun e s' => R (.error e) s') s) : codeAny (model P0 w) A (.forLoop tg it' body [] env) R s := by
  refine codeAny_of_tree ?_
  show wpAny _ A ((forTurn tg it' body [] env).onRaise (fun x => do noteFrame x env; theTreesLotGoes x)) _ _ s
  refine wpAny_noted ?_
  simp only [forTurn]
  refine wpAny_bind (wpAny_standAt (wpAny_bind (wpAny_onRaise (wpAny_mono h (fun r s₁ h₁ => ?_) fun _ _ q => wpAny_standAt q))))
  cases r with
  | none => exact wpAny_pure ⟨rfl, codeAny_block (wpAny_execs_nil h₁)⟩
  | some v =>
    refine wpAny_bind (wpAny_mono h₁ (fun _ s₂ h₂ => ?_) fun _ _ q => q)
    refine wpAny_bind (wpAny_mono h₂ (fun _ s₃ h₃ => wpAny_bind (wpAny_mono h₃ (fun f s₄ h₄ => ?_) fun _ _ q => q)) fun _ _ q => q)
    cases f with
    | next => exact wpAny_pure ⟨rfl, h₄⟩
    | cont => exact wpAny_pure ⟨rfl, h₄⟩
    | brk => exact wpAny_pure h₄
    | ret v => exact wpAny_pure h₄
theorem while_step {t : Expr} {body : List Stmt}
    (h : wpAny (model P0 w) A (isTrue t env (eval t env)) (fun b s₂ =>
        if b then wpAny (model P0 w) A (execs body env) (fun f s₃ => match f with
            | .next | .cont => codeAny (model P0 w) A (.whileLoop t body [] env) R s₃
            | .brk => R (.ok .next) s₃
            | .ret v => R (.ok (.ret v)) s₃) (notedBy (model P0 w) A env fun e s' => R (.error e) s') s₂
        else R (.ok .next) s₂) (notedBy (model P0 w) A env fun e s' => R (.error e) s') s) : codeAny (model P0 w) A (.whileLoop t body [] env) R s := by
  refine codeAny_of_tree ?_
  show wpAny _ A ((whileTurn t body [] env).onRaise (fun x => do noteFrame x env; theTreesLotGoes x)) _ _ s
  refine wpAny_noted ?_
  simp only [whileTurn]
  refine wpAny_bind (wpAny_mono h (fun b s₂ h₂ => ?_) fun _ _ q => q)
  cases b with
  | false =>
    simp only [Bool.false_eq_true, if_false] at h₂ ⊢
    exact wpAny_bind (wpAny_execs_nil (wpAny_pure h₂))
  | true =>
    simp only [if_true] at h₂ ⊢
    refine wpAny_bind (wpAny_mono h₂ (fun f s₃ h₃ => ?_) fun _ _ q => q)
    cases f with
    | next => exact wpAny_pure ⟨rfl, h₃⟩
    | cont => exact wpAny_pure ⟨rfl, h₃⟩
    | brk => exact wpAny_pure h₃
    | ret v => exact wpAny_pure h₃
theorem comp_step {elt tg iter : Expr} {ifs : List Expr} {scope : Scope} {pos : Pos} {it' acc : Value}
    (h : wpAny (model P0 w) A (pyNext it') (fun r s₁ => match r with
      | none => R (.ok .next) s₁
      | some v => wpAny (model P0 w) A (letOwnedTupleGo tg it' v) (fun _ s₁' => wpAny (model P0 w) A (assign tg env v) (fun _ s₂ =>
          wpAny (model P0 w) A (forIn ifs true fun c r => if r = true then do let ok ← isTrue c env (eval c env); pure (ForInStep.yield ok) else pure (ForInStep.yield r)) (fun ok s₃ =>
            if ok = true then wpAny (model P0 w) A (eval elt env) (fun x s₄ =>
              wpAny (model P0 w) A (call (.builtin "list.append") [acc, x]) (fun _ s₅ => codeAny (model P0 w) A (.compLoop (.ListComp elt [⟨tg, iter, ifs, 0⟩] scope pos) 0 it' acc env) R s₅) (notedBy (model P0 w) A env fun e s' => R (.error e) s') s₄) (notedBy (model P0 w) A env fun e s' => R (.error e) s') s₃
            else codeAny (model P0 w) A (.compLoop (.ListComp elt [⟨tg, iter, ifs, 0⟩] scope pos) 0 it' acc env) R s₃) (notedBy (model P0 w) A env fun e s' => R (.error e) s') s₂) (notedBy (model P0 w) A env fun e s' => R (.error e) s') s₁') (notedBy (model P0 w) A env fun e s' => R (.error e) s') s₁)
      (notedBy (model P0 w) A env fun e s' => R (.error e) s') s) :
    codeAny (model P0 w) A (.compLoop (.ListComp elt [⟨tg, iter, ifs, 0⟩] scope pos) 0 it' acc env) R s := by
  refine codeAny_of_tree ?_
  show wpAny _ A ((compTurn (.ListComp elt [⟨tg, iter, ifs, 0⟩] scope pos) 0 it' acc env).onRaise (fun x => do noteFrame x env; theTreesLotGoes x)) _ _ s
  refine wpAny_noted ?_
  rw [compTurn_list]
  refine wpAny_bind (wpAny_standAt (wpAny_bind (wpAny_mono h (fun r s₁ h₁ => ?_) fun _ _ q => q)))
  cases r with
  | none => exact wpAny_pure h₁
  | some v =>
    refine wpAny_bind (wpAny_mono h₁ (fun _ s₁' h₁' => ?_) fun _ _ q => q)
    refine wpAny_bind (wpAny_mono h₁' (fun _ s₂ h₂ => wpAny_bind (wpAny_mono h₂ (fun ok s₃ h₃ => ?_) fun _ _ q => q)) fun _ _ q => q)
    cases ok with
    | false => exact wpAny_pure ⟨rfl, h₃⟩
    | true => exact wpAny_bind (wpAny_bind (wpAny_mono h₃ (fun x s₄ h₄ => wpAny_bind (wpAny_mono h₄ (fun _ s₅ h₅ => wpAny_pure (wpAny_pure ⟨rfl, h₅⟩)) fun _ _ q => q)) fun _ _ q => q))
end

section
variable {G : Gl} {c : Cx} {F : Fm} {ω ω' : Wd} {m m₁ m₂ m' : List (PySem.Str × AV)} {σ σ₁ σ₂ σ₃ σ₄ σ₅ σ' : List AO} {e l r tg : Expr} {pos pos' : Pos} {v a b u it : AV} {st : Stmt} {ss : List Stmt} {fl fl' : AF} {x : PySem.Str} {es : List Expr} {vs : List AV} {f : Value} {h : Heap}

theorem Dr.use (hd : Dr G c m σ tg it m' σ') {s : Shared} {it' : Value} (S : St G c F ω m σ s.heap) (hv : VR G.K ω it it') {N : Shared → Prop} (Q : Unit → Shared → Prop) (E : Value → Shared → Prop)
    (p : ∀ ω' h' tk', ω.le ω' → St G c F ω' m' σ' h' → Q () { s with heap := h', toks := tk' }) :
    wpAny (model P0 G.w) F.A (pyNext it') (fun r s₁ => match r with
      | none => N s₁
      | some v' => wpAny (model P0 G.w) F.A (letOwnedTupleGo tg it' v') (fun _ s₂ => wpAny (model P0 G.w) F.A (assign tg (ev c F) v') Q E s₂) E s₁) E s :=
  wpAny_mono (hd F ω s it' S hv Q E p) (fun r s₁ q => by
    cases r with
    | none => exact q.elim
    | some v => exact q) fun _ _ q => q
/-! for -/
inductive Fo (G : Gl) (c : Cx) (tg : Expr) (it : AV) (body : List Stmt) : List (PySem.Str × AV) → List AO → AF → List (PySem.Str × AV) → List AO → Prop where
  | done {m : List (PySem.Str × AV)} {σ σ' : List AO} : Nd G σ it σ' → Fo G c tg it body m σ .next m σ'
  | turn {m m₁ m₂ m' : List (PySem.Str × AV)} {σ σ₁ σ₂ σ' : List AO} {fl' : AF} : Dr G c m σ tg it m₁ σ₁ → Sx G c m₁ σ₁ body .next m₂ σ₂ → Fo G c tg it body m₂ σ₂ fl' m' σ' → Fo G c tg it body m σ fl' m' σ'
  | ret {m m₁ m' : List (PySem.Str × AV)} {σ σ₁ σ' : List AO} {v : AV} : Dr G c m σ tg it m₁ σ₁ → Sx G c m₁ σ₁ body (.ret v) m' σ' → Fo G c tg it body m σ (.ret v) m' σ'
theorem fo_code {body : List Stmt} (H : Fo G c tg it body m σ fl m' σ') : ∀ F ω s it', St G c F ω m σ s.heap → VR G.K ω it it' → ∀ (R : Result → Shared → Prop),
    (∀ ω' fl' h' tk', ω.le ω' → St G c F ω' m' σ' h' → FlR G.K ω' fl fl' → R (.ok fl') { s with heap := h', toks := tk' }) → codeAny (model P0 G.w) F.A (.forLoop tg it' body [] (ev c F)) R s := by
  induction H with
  | done hn =>
    intro F ω s it' S hv R p
    exact for_step (hn c F ω _ s it' S hv _ _ fun ω' h' tk' l S' => p ω' .next h' tk' l S' .next)
  | turn hd hb _ ih =>
    intro F ω s it' S hv R p
    refine for_step (hd.use S hv _ _ fun ω₁ h₁ t₁ l1 S₁ => ?_)
    refine hb F ω₁ _ S₁ _ _ fun ω₂ fl' h₂ t₂ l2 S₂ hf => ?_
    cases hf
    exact ih F ω₂ _ it' S₂ (hv.mono (l1.trans l2)) R fun ω₃ f₃ h₃ t₃ l3 S₃ hf₃ => p ω₃ f₃ h₃ t₃ ((l1.trans l2).trans l3) S₃ hf₃
  | ret hd hb =>
    intro F ω s it' S hv R p
    refine for_step (hd.use S hv _ _ fun ω₁ h₁ t₁ l1 S₁ => ?_)
    refine hb F ω₁ _ S₁ _ _ fun ω₂ fl' h₂ t₂ l2 S₂ hf => ?_
    cases hf with
    | ret hv' => exact p ω₂ _ h₂ t₂ (l1.trans l2) S₂ (.ret hv')
theorem s_for {iter : Expr} {body : List Stmt} (h1 : Ev G c m σ iter a σ₁) (h2 : Pi G σ₁ a it σ₂) (h3 : Fo G c tg it body m σ₂ fl m' σ') (hs : ∀ env x, foldedSetIterable iter env x = pure x := by ked_read) :
    S1 G c m σ (.For tg iter body [] pos) fl m' σ' := fun F ω s S Q E p =>
  wpAny_For (h1 F ω s S _ E fun ω₁ a' h₁ t₁ l1 S₁ ha => h2 c F ω₁ m _ a' S₁ ha _ E fun ω₂ it' h₂ t₂ l2 S₂ hi =>
    fo_code h3 F ω₂ _ it' S₂ hi _ fun ω₃ fl' h₃ t₃ l3 S₃ hf => p ω₃ fl' h₃ t₃ ((l1.trans l2).trans l3) S₃ hf) (hs _)

/-! while -/
inductive Wh (G : Gl) (c : Cx) (t : Expr) (body : List Stmt) : List (PySem.Str × AV) → List AO → AF → List (PySem.Str × AV) → List AO → Prop where
  | done {m : List (PySem.Str × AV)} {σ σ' : List AO} : Tt G c m σ t false σ' → Wh G c t body m σ .next m σ'
  | turn {m m₂ m' : List (PySem.Str × AV)} {σ σ₁ σ₂ σ' : List AO} {fl' : AF} : Tt G c m σ t true σ₁ → Sx G c m σ₁ body .next m₂ σ₂ → Wh G c t body m₂ σ₂ fl' m' σ' → Wh G c t body m σ fl' m' σ'
  | ret {m m' : List (PySem.Str × AV)} {σ σ₁ σ' : List AO} {v : AV} : Tt G c m σ t true σ₁ → Sx G c m σ₁ body (.ret v) m' σ' → Wh G c t body m σ (.ret v) m' σ'
theorem wh_code {t : Expr} {body : List Stmt} (H : Wh G c t body m σ fl m' σ') : ∀ F ω s, St G c F ω m σ s.heap → ∀ (R : Result → Shared → Prop),
    (∀ ω' fl' h' tk', ω.le ω' → St G c F ω' m' σ' h' → FlR G.K ω' fl fl' → R (.ok fl') { s with heap := h', toks := tk' }) → codeAny (model P0 G.w) F.A (.whileLoop t body [] (ev c F)) R s := by
  induction H with
  | done hn =>
    intro F ω s S R p
    exact while_step (hn F ω s S _ _ fun ω' h' tk' l S' => by rw [if_neg (by simp)]; exact p ω' .next h' tk' l S' .next)
  | turn ht hb _ ih =>
    intro F ω s S R p
    refine while_step (ht F ω s S _ _ fun ω₁ h₁ t₁ l1 S₁ => ?_)
    rw [if_pos rfl]
    refine hb F ω₁ _ S₁ _ _ fun ω₂ fl' h₂ t₂ l2 S₂ hf => ?_
    cases hf
    exact ih F ω₂ _ S₂ R fun ω₃ f₃ h₃ t₃ l3 S₃ hf₃ => p ω₃ f₃ h₃ t₃ ((l1.trans l2).trans l3) S₃ hf₃
  | ret ht hb =>
    intro F ω s S R p
    refine while_step (ht F ω s S _ _ fun ω₁ h₁ t₁ l1 S₁ => ?_)
    rw [if_pos rfl]
    refine hb F ω₁ _ S₁ _ _ fun ω₂ fl' h₂ t₂ l2 S₂ hf => ?_
    cases hf with
    | ret hv' => exact p ω₂ _ h₂ t₂ (l1.trans l2) S₂ (.ret hv')
theorem s_while {t : Expr} {body : List Stmt} (h3 : Wh G c t body m σ fl m' σ') : S1 G c m σ (.While t body [] pos) fl m' σ' := fun F ω s S Q E p =>
  wpAny_While (wh_code h3 F ω s S _ fun ω₃ fl' h₃ t₃ l3 S₃ hf => p ω₃ fl' h₃ t₃ l3 S₃ hf)

/-! comprehensions -/
noncomputable def Ts (G : Gl) (c : Cx) (m : List (PySem.Str × AV)) (σ : List AO) (ifs : List Expr) (y : Bool) (σ' : List AO) : Prop :=
  ∀ F ω s, St G c F ω m σ s.heap → ∀ (Q : Bool → Shared → Prop) E, (∀ ω' h' tk', ω.le ω' → St G c F ω' m σ' h' → Q y { s with heap := h', toks := tk' }) →
    wpAny (model P0 G.w) F.A (forIn ifs true fun c' r => if r = true then do let ok ← isTrue c' (ev c F) (eval c' (ev c F)); pure (ForInStep.yield ok) else pure (ForInStep.yield r)) Q E s
theorem ts_nil : Ts G c m σ [] true σ := fun F ω s S Q E p => wpAny_tests_nil (p ω s.heap s.toks (.refl ω) S)
theorem ts_one {y : Bool} (h : Tt G c m σ e y σ') : Ts G c m σ [e] y σ' := fun F ω s S Q E p => wpAny_tests_one (h F ω s S Q E p)
inductive Lp (G : Gl) (c : Cx) (m : List (PySem.Str × AV)) (elt tg : Expr) (ifs : List Expr) (it : AV) (na : Nat) : List AO → List AO → Prop where
  | done {σ σ' : List AO} : Nd G σ it σ' → Lp G c m elt tg ifs it na σ σ'
  | skip {σ σ₁ σ₂ σ' : List AO} : Dr G c m σ tg it m σ₁ → Ts G c m σ₁ ifs false σ₂ → Lp G c m elt tg ifs it na σ₂ σ' → Lp G c m elt tg ifs it na σ σ'
  | keep {σ σ₁ σ₂ σ₃ σ' : List AO} {u : AV} {vs : List AV} : Dr G c m σ tg it m σ₁ → Ts G c m σ₁ ifs true σ₂ → Ev G c m σ₂ elt u σ₃ → σ₃[na]? = some (.list vs) → vs.length ≤ sizeLine →
      Lp G c m elt tg ifs it na (σ₃.set na (.list (vs ++ [u]))) σ' → Lp G c m elt tg ifs it na σ σ'
theorem lp_code {elt iter : Expr} {ifs : List Expr} {scope : Scope} {na : Nat} (H : Lp G c m elt tg ifs it na σ σ') : ∀ F ω s it' acc, St G c F ω m σ s.heap → VR G.K ω it it' → ω.as[na]? = some acc → ∀ (R : Result → Shared → Prop),
    (∀ ω' h' tk', ω.le ω' → St G c F ω' m σ' h' → R (.ok .next) { s with heap := h', toks := tk' }) → codeAny (model P0 G.w) F.A (.compLoop (.ListComp elt [⟨tg, iter, ifs, 0⟩] scope pos) 0 it' (.ref acc) (ev c F)) R s := by
  induction H with
  | done hn =>
    intro F ω s it' acc S hv ha R p
    exact comp_step (hn c F ω _ s it' S hv _ _ fun ω' h' tk' l S' => p ω' h' tk' l S')
  | skip hd ht _ ih =>
    intro F ω s it' acc S hv ha R p
    refine comp_step (hd.use S hv _ _ fun ω₁ h₁ t₁ l1 S₁ => ht F ω₁ _ S₁ _ _ fun ω₂ h₂ t₂ l2 S₂ => ?_)
    · rw [if_neg (by simp)]
      exact ih F ω₂ _ it' acc S₂ (hv.mono (l1.trans l2)) ((l1.trans l2).at ha) R fun ω₃ h₃ t₃ l3 S₃ => p ω₃ h₃ t₃ ((l1.trans l2).trans l3) S₃
  | keep hd ht he hl hz _ ih =>
    intro F ω s it' acc S hv ha R p
    refine comp_step (hd.use S hv _ _ fun ω₁ h₁ t₁ l1 S₁ => ht F ω₁ _ S₁ _ _ fun ω₂ h₂ t₂ l2 S₂ => ?_)
    · rw [if_pos rfl]
      refine he F ω₂ _ S₂ _ _ fun ω₃ u' h₃ t₃ l3 S₃ hu => ?_
      have l13 := (l1.trans l2).trans l3
      refine cl_append hl hz c F ω₃ m _ [.ref acc, u'] (Nat.zero_le _) S₃ (.cons (.loc (l13.at ha)) (.cons hu .nil)) _ _ fun ω₄ _ h₄ t₄ l4 S₄ _ => ?_
      exact ih F ω₄ _ it' acc S₄ (hv.mono (l13.trans l4)) ((l13.trans l4).at ha) R fun ω₅ h₅ t₅ l5 S₅ => p ω₅ h₅ t₅ ((l13.trans l4).trans l5) S₅
end
end SM13
section SM14
noncomputable def relS (sc osc : Scope) : Scope := { sc with names := sc.names.map fun (n, k) => if (k == .free && osc.kind == .function && osc.names.lookup n == some .cell) then (n, .cell) else (n, k) }
/-- the cells that a closure takes along -/
noncomputable def clos (cells : List (PySem.Str × Nat)) : List (PySem.Str × NameKind) → List (PySem.Str × Nat) → Option (List (PySem.Str × Nat))
  | [], acc => some acc
  | (n, k) :: r, acc => if k == .free then (match lkN n cells with
      | some i => clos cells r ((n, i) :: acc)
      | none => none) else clos cells r acc
theorem closure_go {ω : Wd} {cells : List (PySem.Str × Nat)} {env : Env} (hc : CelR ω cells env.cells) : ∀ {names : List (PySem.Str × NameKind)} {acc cs : List (PySem.Str × Nat)} {ac : List (PySem.Str × Addr)}, CelR ω acc ac → clos cells names acc = some cs →
    ∃ cl, (forIn names ac (fun x r => if (x.2 == NameKind.free) = true then (do let a ← cellOf env x.1; pure (ForInStep.yield ((x.1, a) :: r))) else pure (ForInStep.yield r)) : Sem (List (PySem.Str × Addr))) = pure cl ∧ CelR ω cs cl
  | [], acc, cs, ac, ha, e => by
    simp only [clos, Option.some.injEq] at e
    subst e
    exact ⟨ac, by rw [List.forIn_nil], ha⟩
  | (n, k) :: r, acc, cs, ac, ha, e => by
    unfold clos at e
    by_cases q : (k == NameKind.free) = true
    · rw [if_pos q] at e
      cases hl : lkN n cells with
      | none => rw [hl] at e; cases e
      | some i =>
        rw [hl] at e
        obtain ⟨a, h1, h2⟩ := hc.lookup hl
        obtain ⟨cl, h3, h4⟩ := closure_go hc (names := r) (acc := (n, i) :: acc) (ac := (n, a) :: ac) ⟨rfl, h2, ha⟩ e
        refine ⟨cl, ?_, h4⟩
        rw [List.forIn_cons, if_pos q]
        have : cellOf env n = pure a := by unfold cellOf; rw [h1]
        simp only [this, pure_bind]
        exact h3
    · rw [if_neg q] at e
      obtain ⟨cl, h3, h4⟩ := closure_go hc (names := r) ha e
      refine ⟨cl, ?_, h4⟩
      rw [List.forIn_cons, if_neg q]
      simp only [pure_bind]
      exact h3
theorem closure_is {ω : Wd} {cells cs : List (PySem.Str × Nat)} {env : Env} {scope : Scope} (hc : CelR ω cells env.cells) (e : clos cells scope.names [] = some cs) : ∃ cl, closureFor scope env = pure cl ∧ CelR ω cs cl := by
  obtain ⟨cl, h1, h2⟩ := closure_go hc (names := scope.names) (acc := []) (ac := []) trivial e
  refine ⟨cl, ?_, h2⟩
  unfold closureFor
  simp only [] at h1 ⊢
  exact (bind_pure _).trans h1

section
variable {G : Gl} {c : Cx} {F : Fm} {ω ω' : Wd} {m m₁ m₂ m' : List (PySem.Str × AV)} {σ σ₁ σ₂ σ₃ σ₄ σ₅ σ' : List AO} {e l r tg : Expr} {pos pos' : Pos} {v a b u it : AV} {st : Stmt} {ss : List Stmt} {fl fl' : AF} {x : PySem.Str} {es : List Expr} {vs : List AV} {f : Value} {h : Heap}

noncomputable def Cx.into (c : Cx) (scope : Scope) (l : Nat) (cs : List (PySem.Str × Nat)) : Cx := { c with blk := some ⟨relS scope (scopeOf c), l, cs⟩ }
theorem rel_is {scope : Scope} : relabel scope (ev c F) = relS scope (scopeOf c) := by
  unfold relabel relS Env.kindOf
  rw [ev_scope]
theorem ev_into {scope : Scope} {l : Nat} {cs : List (PySem.Str × Nat)} {C : Addr} {cl : List (PySem.Str × Addr)} : ev (c.into scope l cs) { F with C := C, bcl := cl } = compEnvC scope cl C (ev c F) := by
  unfold compEnvC
  rw [rel_is]
  unfold ev Cx.into
  dsimp only
  cases c.blk <;> rfl
theorem St.into (S : St G c F ω m σ h) {scope : Scope} {l : Nat} {cs : List (PySem.Str × Nat)} {C : Addr} {cl : List (PySem.Str × Addr)} (hk : scope.kind = .function) (hl : ω.as[l]? = some C) (hc : CelR ω cs cl) :
    St G (c.into scope l cs) { F with C := C, bcl := cl } ω m σ h :=
  { hA := S.hA, hH := S.hH, hD := S.hD, hU := S.hU, hK := S.hK, B := S.B, XB := S.XB, TB := S.TB, PB := S.PB, cel := S.cel, lo := S.lo, hp := S.hp, nd := S.nd, gt := S.gt, t0 := S.t0
    blk := fun b hb => by
      cases hb
      exact ⟨hk, hl, hc⟩ }
theorem St.out {scope : Scope} {l : Nat} {cs : List (PySem.Str × Nat)} {C : Addr} {cl : List (PySem.Str × Addr)} {h₀ : Heap} (S₀ : St G c F ω₀ m₀ σ₀ h₀) (hle : ω₀.le ω) (S : St G (c.into scope l cs) { F with C := C, bcl := cl } ω m σ h) : St G c F ω m σ h :=
  { hA := S.hA, hH := S.hH, hD := S.hD, hU := S.hU, hK := S.hK, B := S.B, XB := S.XB, TB := S.TB, PB := S.PB, cel := S.cel, lo := S.lo, hp := S.hp, nd := S.nd, gt := S.gt, t0 := S.t0
    blk := fun b hb => ⟨(S₀.blk b hb).1, hle.at (S₀.blk b hb).2.1, (S₀.blk b hb).2.2.mono hle⟩ }

/-- a comprehension up to its end -/
theorem comp_run {elt iter : Expr} {ifs : List Expr} {scope : Scope} {cs : List (PySem.Str × Nat)} {n : Nat} {use : Option (Value → Sem Unit)}
    (hcell : (scope.names.all fun x => x.2 != .cell) = true) (hkind : scope.kind = .function) (hnames : (scope.names.all fun x => x.2 != .local || scope.names.lookup x.1 == some .local) = true)
    (hcl : clos (cellsOf c) scope.names [] = some cs) (h1 : Ev G c m σ iter a σ₁) (h2 : Pi G σ₁ a it σ₂) (hn : σ₂.length = n)
    (hself : Pi G (σ₂ ++ [.list []] ++ [.ns []]) it it (σ₂ ++ [.list []] ++ [.ns []]))
    (h3 : Lp G (c.into scope (n + 1) cs) m elt tg ifs it n (σ₂ ++ [.list []] ++ [.ns []]) σ₃) {mb : List (PySem.Str × AV)} (hns : σ₃[n + 1]? = some (.ns mb))
    (hs : ∀ env x, foldedSetIterable iter env x = pure x)
    {s : Shared} (S : St G c F ω m σ s.heap) {Q E : Value → Shared → Prop}
    (p : ∀ ω' acc C h' tk', ω.le ω' → ω'.as[n]? = some acc → ω'.as[n + 1]? = some C → St G c F ω' m σ₃ h' → compPost (model P0 G.w) F.A E use Q (.ref acc) C (.ok .next) { s with heap := h', toks := tk' }) :
    wpAny (model P0 G.w) F.A (comprehension (.ListComp elt [⟨tg, iter, ifs, 0⟩] scope pos) scope (ev c F) (firstIterPos [⟨tg, iter, ifs, 0⟩] pos) (newList []) (firstAsync [⟨tg, iter, ifs, 0⟩]) (firstIter [⟨tg, iter, ifs, 0⟩] (ev c F)) use) Q E s := by
  subst hn
  obtain ⟨cl, hclo, hcel⟩ := closure_is S.cells hcl
  refine wpAny_comprehension_free (use := use) rfl (hs _) hclo hkind (fun x hx hl => ?_) (h1 F ω s S _ E fun ω₁ a' h₁ t₁ l1 S₁ ha => h2 c F ω₁ m _ a' S₁ ha _ E fun ω₂ it' h₂ t₂ l2 S₂ hi => ?_)
  · have := List.all_eq_true.mp hnames x hx
    rw [hl] at this
    simpa using this
  · have l12 := l1.trans l2
    refine wpAny_newObj_type (wpAny_newFunctionEnv (fun y hy => by simpa using List.all_eq_true.mp hcell y hy) (by intro y hy; simp at hy) (fun h₃ hns₃ hsb₃ => ?_) hkind)
    dsimp only at hns₃ hsb₃ ⊢
    obtain ⟨S₃, e₃⟩ := S₂.pushed (o := { cls := .type "list", dict := none, data := .seq ([] : List Value).toArray }) (y := .list []) rfl (.list (vs := []) (ws := []) .nil)
    have l3 := Wd.le_push ω₂ h₂.objs.size
    generalize hH : h₂.push { cls := .type "list", dict := none, data := .seq ([] : List Value).toArray } = H at hns₃ hsb₃ S₃ ⊢
    obtain ⟨oC, es, ep, hC, hd, hk, hf⟩ := hns₃
    have S₄ := S₃.new (h' := h₃) (a := H.objs.size) (x := .ns []) (o := oC) (fun b o q => hsb₃.extBut b o (Nat.ne_of_lt (Heap.lt_size q)) (Heap.get?_push_of_some _ q)) (Nat.le_refl _) hC (.ns (M := fun x => ([] : List (PySem.Str × Value)).reverse.lookup x) hd hk (funext hf) fun x v q => by cases q)
    have l4 := Wd.le_push (ω₂.push h₂.objs.size) H.objs.size
    have l34 := l3.trans l4
    have eC : ((ω₂.push h₂.objs.size).push H.objs.size).as[σ₂.length + 1]? = some H.objs.size := by
      show ((ω₂.as ++ [h₂.objs.size]) ++ [H.objs.size])[σ₂.length + 1]? = _
      rw [← S₂.len]; simp
    have eA : ((ω₂.push h₂.objs.size).push H.objs.size).as[σ₂.length]? = some h₂.objs.size := l4.at e₃
    have S₅ := S₄.into (scope := scope) (cl := cl) hkind eC (hcel.mono (l12.trans l34))
    have hi' := hi.mono l34
    have key : ∀ (it₂ : Value) ω₅ h₅ t₅, ((ω₂.push h₂.objs.size).push H.objs.size).le ω₅ → St G (c.into scope (σ₂.length + 1) cs) { F with C := H.objs.size, bcl := cl } ω₅ m (σ₂ ++ [.list []] ++ [.ns []]) h₅ → VR G.K ω₅ it it₂ →
        codeAny (model P0 G.w) F.A (.compLoop (.ListComp elt [⟨tg, iter, ifs, 0⟩] scope pos) 0 it₂ (.ref h₂.objs.size) (ev (c.into scope (σ₂.length + 1) cs) { F with C := H.objs.size, bcl := cl }))
          (compPost (model P0 G.w) F.A E use Q (.ref h₂.objs.size) H.objs.size) { s with heap := h₅, toks := t₅ } := fun it₂ ω₅ h₅ t₅ l5 S₆ hv => by
      refine lp_code h3 { F with C := H.objs.size, bcl := cl } ω₅ _ it₂ h₂.objs.size S₆ hv (l5.at eA) _ fun ω₆ h₆ t₆ l6 S₇ => ?_
      exact p ω₆ _ _ h₆ t₆ (((l12.trans l34).trans l5).trans l6) ((l5.trans l6).at eA) ((l5.trans l6).at eC) (S.out (((l12.trans l34).trans l5).trans l6) S₇)
    show codeAny _ _ (.compStart _ 0 it' _ (compEnvC scope cl H.objs.size (ev c F))) (compPost (model P0 G.w) F.A E use Q (.ref h₂.objs.size) H.objs.size) _
    rw [← ev_into (l := σ₂.length + 1) (cs := cs)]
    refine codeAny_compStart_list (key it' _ _ _ (.refl _) S₅ hi') ?_
    exact hself _ { F with C := H.objs.size, bcl := cl } _ m _ it' S₅ hi' _ _ fun ω₅ it₂ h₅ t₅ l5 S₆ hv => key it₂ ω₅ h₅ t₅ l5 S₆ hv
theorem ev_comp {elt iter : Expr} {ifs : List Expr} {scope : Scope} {cs : List (PySem.Str × Nat)} {n : Nat}
    (hcell : (scope.names.all fun x => x.2 != .cell) = true) (hkind : scope.kind = .function) (hnames : (scope.names.all fun x => x.2 != .local || scope.names.lookup x.1 == some .local) = true)
    (hcl : clos (cellsOf c) scope.names [] = some cs) (h1 : Ev G c m σ iter a σ₁) (h2 : Pi G σ₁ a it σ₂) (hn : σ₂.length = n)
    (hself : Pi G (σ₂ ++ [.list []] ++ [.ns []]) it it (σ₂ ++ [.list []] ++ [.ns []]))
    (h3 : Lp G (c.into scope (n + 1) cs) m elt tg ifs it n (σ₂ ++ [.list []] ++ [.ns []]) σ₃) {mb : List (PySem.Str × AV)} (hns : σ₃[n + 1]? = some (.ns mb))
    (hs : ∀ env x, foldedSetIterable iter env x = pure x := by ked_read) :
    Ev G c m σ (.ListComp elt [⟨tg, iter, ifs, 0⟩] scope pos) (.loc n) (σ₃.set (n + 1) .dead) := fun F ω s S Q E p => by
  rw [eval_ListComp]
  refine comp_run (use := none) hcell hkind hnames hcl h1 h2 hn hself h3 hns hs S fun ω' acc C h' tk' l ea eC S' => ?_
  obtain ⟨o, ho, hr⟩ := S'.atL hns eC
  replace hr := hr.m
  obtain ⟨_, _, _, g1, g2, g3, g4⟩ := hr
  refine ⟨_, ⟨o, _, _, ho, g1, g2, fun n => by rw [g3]⟩, fun h'' hs'' => ?_⟩
  exact p ω' _ h'' tk' l (S'.kill hns eC fun b o' hb q => (hs''.2 b hb).trans q) (.loc ea)
theorem s_assign_comp {elt iter : Expr} {ifs : List Expr} {scope : Scope} {cs : List (PySem.Str × Nat)} {n : Nat} {y : PySem.Str} {spos : Pos}
    (hcell : (scope.names.all fun x => x.2 != .cell) = true) (hkind : scope.kind = .function) (hnames : (scope.names.all fun x => x.2 != .local || scope.names.lookup x.1 == some .local) = true)
    (hcl : clos (cellsOf c) scope.names [] = some cs) (h1 : Ev G c m σ iter a σ₁) (h2 : Pi G σ₁ a it σ₂) (hn : σ₂.length = n)
    (hself : Pi G (σ₂ ++ [.list []] ++ [.ns []]) it it (σ₂ ++ [.list []] ++ [.ns []]))
    (h3 : Lp G (c.into scope (n + 1) cs) m elt tg ifs it n (σ₂ ++ [.list []] ++ [.ns []]) σ₃) {mb : List (PySem.Str × AV)}
    (h4 : Sn G c m σ₃ y (.loc n) m' σ₄) (hns : σ₃[n + 1]? = some (.ns mb)) (hns4 : σ₄[n + 1]? = some (.ns mb))
    (hsw : ∀ F, swapsWith (.ListComp elt [⟨tg, iter, ifs, 0⟩] scope pos) (some (.Name y pos')) spos.line (ev c F) = pure true)
    (hs : ∀ env x, foldedSetIterable iter env x = pure x := by ked_read) :
    S1 G c m σ (.Assign [.Name y pos'] (.ListComp elt [⟨tg, iter, ifs, 0⟩] scope pos) spos) .next m' (σ₄.set (n + 1) .dead) := fun F ω s S Q E p => by
  rw [exec_Assign_Name_used _ _ _ _ (hsw F)]
  refine wpAny_bind (wpAny_standAt (wpAny_bind ?_))
  refine wpAny_bind (wpAny_mono (Q := fun _ s' => Q .next s') (E := E) (comp_run (use := some (assign (.Name y pos') (ev c F))) hcell hkind hnames hcl h1 h2 hn hself h3 hns hs S fun ω' acc C h' tk' l ea eC S' => ?_) (fun _ s' hq => wpAny_pure (wpAny_pure hq)) fun _ _ q => q)
  show wpAny _ F.A (assign (.Name y pos') (ev c F) (.ref acc)) _ _ _
  refine wpAny_assign_Name (h4 F ω' _ _ S' (.loc ea) _ E fun h₂ t₂ S₂ => ?_)
  obtain ⟨o, ho, hr⟩ := S₂.atL hns4 eC
  replace hr := hr.m
  obtain ⟨_, _, _, g1, g2, g3, g4⟩ := hr
  refine ⟨_, ⟨o, _, _, ho, g1, g2, fun n => by rw [g3]⟩, fun h'' hs'' => ?_⟩
  exact p ω' _ h'' t₂ l (S₂.kill hns4 eC fun b o' hb q => (hs''.2 b hb).trans q) .next
theorem pi_rit {i : Nat} {y k : Int} (hi : σ[i]? = some (.rit y k)) : Pi G σ (.loc i) (.loc i) σ := fun c F ω m s a' S hv Q E p => by
  replace hv := hv.m
  obtain ⟨z, rfl, hz⟩ := hv
  obtain ⟨o, ho, hr⟩ := S.atL hi hz
  replace hr := hr.m
  have e : _ = _ := hr
  subst e; exact wpAny_pyIter_rangeiter (x := y) (left := k) (step := 1) ho (p.here S (.loc hz))
theorem pi_lit {i j k : Nat} (hi : σ[i]? = some (.lit j k)) : Pi G σ (.loc i) (.loc i) σ := fun c F ω m s a' S hv Q E p => by
  replace hv := hv.m
  obtain ⟨y, rfl, hy⟩ := hv
  obtain ⟨o, ho, hr⟩ := S.atL hi hy
  replace hr := hr.m
  obtain ⟨_, l1, l2, l3⟩ := hr
  exact wpAny_pyIter_listiter ⟨o, ho, l2, l3⟩ (p.here S (.loc hy))
end
end SM14
section SM15
section
variable {G : Gl} {c : Cx} {F : Fm} {ω ω' : Wd} {m m₁ m₂ m' : List (PySem.Str × AV)} {σ σ₁ σ₂ σ₃ σ₄ σ₅ σ' : List AO} {e l r tg : Expr} {pos pos' : Pos} {v a b u it : AV} {st : Stmt} {ss : List Stmt} {fl fl' : AF} {x y : PySem.Str} {es : List Expr} {vs : List AV} {f : Value} {h : Heap}

/-! an object made -/
theorem cl_make {k n : Nat} {q : PySem.Str} {sf : Stmt} {dV pm cdv : Value} {xs : List PySem.Str} {C fI : Addr}
    (hm : makesIn G.K C = true) (hi : findIn G.K (.ref C) "__init__" = some (some (.ref fI))) (hf : typeIn G.K (.ref fI) = some (.type "function"))
    (hw : ∀ vs, (Code.builtin "type.__call__" ⟨.ref C :: vs, []⟩).weight ≤ 2 ∧ (Code.builtin "type.__call__" ⟨.ref C :: vs, []⟩).envs = [] ∧ (Code.builtin "type.__call__" ⟨.ref C :: vs, []⟩).cUnits ≤ 4)
    (hn : σ.length = n)
    (ho : G.K.lookup fI = some (fo sf q dV pm cdv)) (hcd : codeIn G.K cdv q = true)
    (hbind : ∀ s ws, G.K.In s.heap → ws.length = (AV.loc (n + 1) :: vs).length → BindsTo s (fdOf sf q dV pm cdv) ⟨ws, []⟩ (xs.zip ws))
    (hloc : (xs.all fun x => (dScope sf).names.lookup x == some .local) = true) (hnd : xs.Nodup)
    (hbody : Sx G ⟨k, q, dScope sf, fI, cdv, [], none⟩ (xs.zip (AV.loc (n + 1) :: vs)) (σ ++ [.idict []] ++ [.inst C n]) (dBody sf) fl m' σ')
    (hcell : ((dScope sf).names.all fun x => x.2 != .cell) = true) (hco : (dScope sf).isCoroutine = false) (hgen : (dScope sf).isGenerator = false) (hk : (dScope sf).kind = .function) (hr : retOf fl = .none) :
    Cl G (k + 2) (.ref C) vs σ (.loc (n + 1)) σ' := fun c F ω m s args' hle S hv Q E p => by
  subst hn
  obtain ⟨M, Fh, hM⟩ := S.lo
  have X := S.X.keeps Fh.keep
  refine wpAny_call ?_
  obtain ⟨S₁, e₁⟩ := S.pushed (o := emptyDict) (y := .idict []) rfl (.idict (ds := []) .nil)
  obtain ⟨S₂, e₂⟩ := S₁.pushed (o := instObj C s.heap.objs.size) (y := .inst C σ.length) rfl (.inst ((Wd.le_push (ω.push s.heap.objs.size) (s.heap.push emptyDict).objs.size).at e₁))
  have hz : (s.heap.push emptyDict).objs.size = s.heap.objs.size + 1 := Heap.size_push ..
  have hlen : (σ ++ [AO.idict []]).length = σ.length + 1 := by simp
  rw [hlen] at e₂
  rw [hz] at S₂ e₂
  have l2 : ω.le ((ω.push s.heap.objs.size).push (s.heap.objs.size + 1)) := (Wd.le_push _ _).trans (Wd.le_push _ _)
  obtain ⟨w1, w2, w3⟩ := hw args'
  have hD := S.hD
  have hU := S.hU
  obtain ⟨hh, g, d, t, os⟩ := s
  refine make_core (makes_of X hm) (looks_findIn X hi) (fun self => bind_fn X self hf) (.inl rfl) ?_
  refine code_in (c := c) (F := F) (A := F.A.under (.builtin "type.__call__" ⟨.ref C :: args', []⟩)) (k := k) (vs := AV.loc (σ.length + 1) :: vs) (s := ⟨(hh.push emptyDict).push (instObj C hh.objs.size), g, d, t, os⟩) ho hcd hbind hloc hnd hbody hcell hco hgen hk (by omega) S₂ ?_ rfl ?_ ?_ (.cons (.loc e₂) (hv.mono l2)) fun ω' v' h' tk' l1 S' hv' => ?_
  · have e : (F.A.under (Code.builtin "type.__call__" ⟨.ref C :: args', []⟩)).frames = pushEnvs (Code.builtin "type.__call__" ⟨.ref C :: args', []⟩).envs F.A.frames := rfl
    rw [e, w2]; rfl
  · show F.A.depth + _ + 4 * k + 1 ≤ 900
    omega
  · show F.A.units + _ + 8 * k + 3 ≤ 9000
    omega
  · rw [hr] at hv'
    cases hv'
    exact ⟨rfl, p ω' _ h' tk' (l2.trans l1) S' (.loc (l1.at e₂))⟩

/-! a dict display -/
theorem merged_app {K : Type} [DecidableEq K] : ∀ (more acc : List (K × Value)), ((acc ++ more).map (·.1)).Nodup → merged acc more = acc ++ more
  | [], acc, _ => by simp [merged]
  | (k, v) :: more, acc, hn => by
    have e : stored acc k v = acc ++ [(k, v)] := by
      unfold stored
      rw [if_neg]
      intro q
      obtain ⟨kv, h1, h2⟩ := List.any_eq_true.mp q
      simp only [List.map_append, List.map_cons] at hn
      rw [List.nodup_append] at hn
      exact hn.2.2 kv.1 (List.mem_map_of_mem h1) k (.head _) (of_decide_eq_true h2)
    show merged (stored acc k v) more = _
    rw [e, merged_app more (acc ++ [(k, v)]) (by simpa using hn)]
    simp
noncomputable def Eps (G : Gl) (c : Cx) (m : List (PySem.Str × AV)) (σ : List AO) (ks : List (Option Expr)) (es : List Expr) (kvs : List (PySem.Str × AV)) (σ' : List AO) : Prop :=
  ∀ F ω s pos, St G c F ω m σ s.heap → ∀ (Q : List (Value × Value) → Shared → Prop) E, (∀ ω' ws kv h' tk', ω.le ω' → St G c F ω' m σ' h' → Carries (strKind P0 G.w) ws kv → KvR G.K ω' kvs kv → Q ws { s with heap := h', toks := tk' }) →
    wpAny (model P0 G.w) F.A (evalPairs (pairTrees ks es (ev c F) pos)) Q E s
theorem eps_nil : Eps G c m σ [] [] [] σ := fun F ω s pos S Q E p => pairTrees_nil_walk (p ω [] [] s.heap s.toks (.refl ω) S trivial .nil)
theorem eps_cons {ke : Expr} {ks : List (Option Expr)} {kvs : List (PySem.Str × AV)} (h1 : Ev G c m σ ke (.str x) σ₁) (h2 : Ev G c m σ₁ e v σ₂) (h3 : Eps G c m σ₂ ks es kvs σ') : Eps G c m σ (some ke :: ks) (e :: es) ((x, v) :: kvs) σ' := fun F ω s pos S Q E p =>
  pairTrees_cons_walk (h1 F ω s S _ E fun ω₁ k' h₁ t₁ l1 S₁ hk => h2 F ω₁ _ S₁ _ E fun ω₂ v' h₂ t₂ l2 S₂ hv => h3 F ω₂ _ pos S₂ _ E fun ω₃ ws kv h₃ t₃ l3 S₃ hc hkv => by
    cases hk
    exact p ω₃ _ ((x, v') :: kv) h₃ t₃ ((l1.trans l2).trans l3) S₃ ⟨strKind_is _ _ _ _, rfl, hc⟩ (.cons (hv.mono l3) hkv))
theorem KvR.keys {K : Frag} {ω : Wd} {es : List (PySem.Str × AV)} {kvs : List (PySem.Str × Value)} (hh : KvR K ω es kvs) : kvs.map (·.1) = es.map (·.1) := by
  induction hh with
  | nil => rfl
  | cons h r ih => exact congrArg (List.cons _) ih
theorem ev_dict {n : Nat} {ks : List (Option Expr)} {kvs : List (PySem.Str × AV)} (hn : σ.length = n) (h : Eps G c m (σ ++ [.dict []]) ks es kvs σ') (hd : σ'[n]? = some (.dict [])) (hnd : (kvs.map (·.1)).Nodup)
    (hall : ks.all (·.isSome) = true := by rfl) (hl : ks.length = es.length := by rfl) (h0 : ks ≠ [] := by ked_reads) (hz : ks.length ≤ 15 := by decide) :
    Ev G c m σ (.Dict ks es pos) (.loc n) (σ'.set n (.dict kvs)) := fun F ω s S Q E p => by
  subst hn
  obtain ⟨S₁, e₁⟩ := S.pushed (o := { cls := .type "dict", data := .dict #[] }) (y := .dict []) rfl (.dict (kvs := []) .nil ⟨#[], 0, ⟨rfl, rfl, rfl⟩, rfl, fun e he => by simp at he, .nil, List.nodup_nil⟩)
  refine wpAny_Dict_walk (knd := strKind P0 G.w) hall hl h0 hz (h F _ _ pos S₁ _ E fun ω₁ ws kv h₁ t₁ l1 S₂ hc hkv => ?_)
  have ea := l1.at e₁
  obtain ⟨o, ho, hr⟩ := S₂.atL hd ea
  refine ⟨kv, hc, ?_, fun h' hd' hs' => ?_⟩
  · replace hr := hr.m
    obtain ⟨_, g1, g2⟩ := hr
    cases g1
    exact Heap.dictOf_iff.mpr ⟨o, ho, g2⟩
  · obtain ⟨o', ho', hi'⟩ := Heap.dictOf_iff.mp hd'
    have em : merged [] kv = kv := merged_app kv [] (by rw [List.nil_append, hkv.keys]; exact hnd)
    rw [em] at hi'
    exact p ω₁ _ h' _ ((Wd.le_push _ _).trans l1) (S₂.upd hd ea hs' ho' (.dict hkv hi')) (.loc ea)

/-! several targets -/
theorem s_assign_tup {tgs : List Expr} {k : Nat} {tpos : Pos} (h : Ev G c m σ e v σ₁) (h2 : As G c m σ₁ (.Tuple tgs k tpos) v m' σ') (hs : ∀ env, swapsWithSole [.Tuple tgs k tpos] e pos.line env = pure false := by ked_read)
    (hw : ∀ F, swappedStores [.Tuple tgs k tpos] e (ev c F) = pure none) : S1 G c m σ (.Assign [.Tuple tgs k tpos] e pos) .next m' σ' := fun F ω s S Q E p =>
  Assign_Tuple (h F ω s S _ E fun ω₁ v' h₁ t₁ l1 S₁ hv => h2 F ω₁ _ v' S₁ hv _ E fun ω₂ h₂ t₂ l2 S₂ => p ω₂ _ h₂ t₂ (l1.trans l2) S₂ .next) (hs _) (hw F)
theorem s_assign_swap {tgs : List Expr} {k : Nat} {tpos : Pos} (h : Ev G c m σ e (.tup [a, b]) σ₁) (h2 : Sn G c m σ₁ y b m₁ σ₂) (h3 : Sn G c m₁ σ₂ x a m' σ') (hs : ∀ env, swapsWithSole [.Tuple tgs k tpos] e pos.line env = pure false := by ked_read)
    (hw : ∀ F, swappedStores [.Tuple tgs k tpos] e (ev c F) = pure (some [x, y])) : S1 G c m σ (.Assign [.Tuple tgs k tpos] e pos) .next m' σ' := fun F ω s S Q E p => by
  refine Assign_Tuple_swapped (h F ω s S _ E fun ω₁ v' h₁ t₁ l1 S₁ hv => ?_) (hs _) (hw F)
  obtain ⟨z, ws, n, rfl, ht, hw'⟩ := St.tup (s := { s with heap := h₁, toks := t₁ }) S₁ hv
  obtain ⟨va, vb, rfl, ra, rb⟩ := hw'.two
  have hti : Heap.IsTuple h₁ z #[va, vb] := ⟨_, ht, rfl, n, rfl⟩
  refine wpAny_unpackItems_tuple (s := { s with heap := h₁, toks := t₁ }) (t := z) (items := #[va, vb]) (A := F.A) S.hH hti fun h' hk => ?_
  have S₂ := S₁.grow (h' := h') fun b o q => hk b o (Nat.ne_of_lt (Heap.lt_size q)) q
  show wpAny _ _ (assignInOrder [bindName (ev c F) y, bindName (ev c F) x] [vb, va]) _ _ _
  unfold assignInOrder
  refine wpAny_bind (wpAny_holding (wpAny_bindName (h2 F ω₁ _ vb S₂ rb _ E fun h₃ t₃ S₃ => ?_)))
  unfold assignInOrder
  refine wpAny_bind (wpAny_holding (wpAny_bindName (h3 F ω₁ _ va S₃ ra _ E fun h₄ t₄ S₄ => ?_)))
  exact wpAny_pure (p ω₁ _ h₄ t₄ l1 S₄ .next)
end
end SM15
section SM16
section
variable {G : Gl} {c : Cx} {m : List (PySem.Str × AV)} {σ : List AO} {pos : Pos}
theorem ho_RowsError_init : G.K.lookup 36 = some (fo (inClass 2 0) "RowsError.__init__" (.ref 29) (.str "methodrows.errors" 194) (.ref 35)) := by kernel_rfl!
theorem ho_Code_init : G.K.lookup 88 = some (fo (inClass 9 0) "Code.__init__" (.ref 81) (.str "methodrows.ir" 261) (.ref 87)) := by kernel_rfl!
theorem ho_shape_of : G.K.lookup 109 = some (fo (atTop 10) "shape_of" (.none) (.str "methodrows.ir" 261) (.ref 108)) := by kernel_rfl!
theorem ho_goals_of : G.K.lookup 114 = some (fo (atTop 11) "goals_of" (.none) (.str "methodrows.ir" 261) (.ref 113)) := by kernel_rfl!
theorem ho_turned_row : G.K.lookup 119 = some (fo (atTop 12) "turned_row" (.none) (.str "methodrows.ir" 261) (.ref 118)) := by kernel_rfl!
theorem ho_Scope_init : G.K.lookup 135 = some (fo (inClass 14 0) "Scope.__init__" (.ref 128) (.str "methodrows.lower_context" 413) (.ref 134)) := by kernel_rfl!
theorem ho_Scope_find : G.K.lookup 142 = some (fo (inClass 14 1) "Scope.find" (.none) (.str "methodrows.lower_context" 413) (.ref 141)) := by kernel_rfl!
theorem ho_Scope_is_known : G.K.lookup 149 = some (fo (inClass 14 2) "Scope.is_known" (.none) (.str "methodrows.lower_context" 413) (.ref 148)) := by kernel_rfl!
theorem ho_Writer_init : G.K.lookup 173 = some (fo (inClass 15 0) "Writer.__init__" (.ref 166) (.str "methodrows.lower_context" 413) (.ref 172)) := by kernel_rfl!
theorem ho_Writer_fresh : G.K.lookup 180 = some (fo (inClass 15 1) "Writer.fresh" (.none) (.str "methodrows.lower_context" 413) (.ref 179)) := by kernel_rfl!
theorem ho_Writer_label : G.K.lookup 187 = some (fo (inClass 15 2) "Writer.label" (.none) (.str "methodrows.lower_context" 413) (.ref 186)) := by kernel_rfl!
theorem ho_Writer_mark : G.K.lookup 194 = some (fo (inClass 15 3) "Writer.mark" (.none) (.str "methodrows.lower_context" 413) (.ref 193)) := by kernel_rfl!
theorem ho_Writer_emit : G.K.lookup 201 = some (fo (inClass 15 4) "Writer.emit" (.none) (.str "methodrows.lower_context" 413) (.ref 200)) := by kernel_rfl!
theorem ho_Writer_constant : G.K.lookup 208 = some (fo (inClass 15 5) "Writer.constant" (.none) (.str "methodrows.lower_context" 413) (.ref 207)) := by kernel_rfl!
theorem ho_Writer_call : G.K.lookup 215 = some (fo (inClass 15 6) "Writer.call" (.none) (.str "methodrows.lower_context" 413) (.ref 214)) := by kernel_rfl!
theorem ho_Writer_builtin : G.K.lookup 222 = some (fo (inClass 15 7) "Writer.builtin" (.none) (.str "methodrows.lower_context" 413) (.ref 221)) := by kernel_rfl!
theorem ho_Writer_base : G.K.lookup 229 = some (fo (inClass 15 8) "Writer.base" (.none) (.str "methodrows.lower_context" 413) (.ref 228)) := by kernel_rfl!
theorem ho_Writer_copied : G.K.lookup 236 = some (fo (inClass 15 9) "Writer.copied" (.none) (.str "methodrows.lower_context" 413) (.ref 235)) := by kernel_rfl!
theorem ho_Writer_is_open : G.K.lookup 243 = some (fo (inClass 15 10) "Writer.is_open" (.none) (.str "methodrows.lower_context" 413) (.ref 242)) := by kernel_rfl!
theorem ho_Writer_goal : G.K.lookup 250 = some (fo (inClass 15 11) "Writer.goal" (.none) (.str "methodrows.lower_context" 413) (.ref 249)) := by kernel_rfl!
theorem ho_Writer_code : G.K.lookup 257 = some (fo (inClass 15 12) "Writer.code" (.ref 252) (.str "methodrows.lower_context" 413) (.ref 256)) := by kernel_rfl!
theorem ho_law_keg : G.K.lookup 271 = some (fo (atTop 17) "_law_keg" (.none) (.str "law_pc0200_01" 602) (.ref 270)) := by kernel_rfl!
theorem ho_law_tap : G.K.lookup 278 = some (fo (atTop 18) "_law_tap" (.none) (.str "law_pc0200_01" 602) (.ref 277)) := by kernel_rfl!
theorem ho_law_new : G.K.lookup 285 = some (fo (atTop 19) "_law_new" (.none) (.str "law_pc0200_01" 602) (.ref 284)) := by kernel_rfl!
theorem ho_law_constant : G.K.lookup 292 = some (fo (atTop 20) "_law_constant" (.none) (.str "law_pc0200_01" 602) (.ref 291)) := by kernel_rfl!
theorem ho_law_called : G.K.lookup 299 = some (fo (atTop 21) "_law_called" (.none) (.str "law_pc0200_01" 602) (.ref 298)) := by kernel_rfl!
theorem ho_law_deed : G.K.lookup 304 = some (fo (atTop 22) "_law_deed" (.none) (.str "law_pc0200_01" 602) (.ref 303)) := by kernel_rfl!
theorem ho_law_is_open : G.K.lookup 311 = some (fo (atTop 23) "_law_is_open" (.none) (.str "law_pc0200_01" 602) (.ref 310)) := by kernel_rfl!
theorem ho_law_code : G.K.lookup 318 = some (fo (atTop 24) "_law_code" (.none) (.str "law_pc0200_01" 602) (.ref 317)) := by kernel_rfl!
theorem ho_law_written_right : G.K.lookup 323 = some (fo (atTop 25) "_law_written_right" (.none) (.str "law_pc0200_01" 602) (.ref 322)) := by kernel_rfl!
theorem ho_law_scopes_right : G.K.lookup 328 = some (fo (atTop 26) "_law_scopes_right" (.none) (.str "law_pc0200_01" 602) (.ref 327)) := by kernel_rfl!
theorem ho_law : G.K.lookup 335 = some (fo (atTop 27) "law" (.none) (.str "law_pc0200_01" 602) (.ref 334)) := by kernel_rfl!
theorem g_shape_of (hx : (scopeOf c).names.lookup ("shape_of" : PySem.Str) = some .globalImplicit) : Ev G c m σ (.Name "shape_of" pos) (.glob (.ref 109)) σ := ev_globalB hx (v' := .ref 109) (by kernel_rfl!) fun _ => .glob _
theorem g_goals_of (hx : (scopeOf c).names.lookup ("goals_of" : PySem.Str) = some .globalImplicit) : Ev G c m σ (.Name "goals_of" pos) (.glob (.ref 114)) σ := ev_globalB hx (v' := .ref 114) (by kernel_rfl!) fun _ => .glob _
theorem g_turned_row (hx : (scopeOf c).names.lookup ("turned_row" : PySem.Str) = some .globalImplicit) : Ev G c m σ (.Name "turned_row" pos) (.glob (.ref 119)) σ := ev_globalB hx (v' := .ref 119) (by kernel_rfl!) fun _ => .glob _
theorem g_law_keg (hx : (scopeOf c).names.lookup ("_law_keg" : PySem.Str) = some .globalImplicit) : Ev G c m σ (.Name "_law_keg" pos) (.glob (.ref 271)) σ := ev_globalB hx (v' := .ref 271) (by kernel_rfl!) fun _ => .glob _
theorem g_law_tap (hx : (scopeOf c).names.lookup ("_law_tap" : PySem.Str) = some .globalImplicit) : Ev G c m σ (.Name "_law_tap" pos) (.glob (.ref 278)) σ := ev_globalB hx (v' := .ref 278) (by kernel_rfl!) fun _ => .glob _
theorem g_law_new (hx : (scopeOf c).names.lookup ("_law_new" : PySem.Str) = some .globalImplicit) : Ev G c m σ (.Name "_law_new" pos) (.glob (.ref 285)) σ := ev_globalB hx (v' := .ref 285) (by kernel_rfl!) fun _ => .glob _
theorem g_law_constant (hx : (scopeOf c).names.lookup ("_law_constant" : PySem.Str) = some .globalImplicit) : Ev G c m σ (.Name "_law_constant" pos) (.glob (.ref 292)) σ := ev_globalB hx (v' := .ref 292) (by kernel_rfl!) fun _ => .glob _
theorem g_law_called (hx : (scopeOf c).names.lookup ("_law_called" : PySem.Str) = some .globalImplicit) : Ev G c m σ (.Name "_law_called" pos) (.glob (.ref 299)) σ := ev_globalB hx (v' := .ref 299) (by kernel_rfl!) fun _ => .glob _
theorem g_law_deed (hx : (scopeOf c).names.lookup ("_law_deed" : PySem.Str) = some .globalImplicit) : Ev G c m σ (.Name "_law_deed" pos) (.glob (.ref 304)) σ := ev_globalB hx (v' := .ref 304) (by kernel_rfl!) fun _ => .glob _
theorem g_law_is_open (hx : (scopeOf c).names.lookup ("_law_is_open" : PySem.Str) = some .globalImplicit) : Ev G c m σ (.Name "_law_is_open" pos) (.glob (.ref 311)) σ := ev_globalB hx (v' := .ref 311) (by kernel_rfl!) fun _ => .glob _
theorem g_law_code (hx : (scopeOf c).names.lookup ("_law_code" : PySem.Str) = some .globalImplicit) : Ev G c m σ (.Name "_law_code" pos) (.glob (.ref 318)) σ := ev_globalB hx (v' := .ref 318) (by kernel_rfl!) fun _ => .glob _
theorem g_law_written_right (hx : (scopeOf c).names.lookup ("_law_written_right" : PySem.Str) = some .globalImplicit) : Ev G c m σ (.Name "_law_written_right" pos) (.glob (.ref 323)) σ := ev_globalB hx (v' := .ref 323) (by kernel_rfl!) fun _ => .glob _
theorem g_law_scopes_right (hx : (scopeOf c).names.lookup ("_law_scopes_right" : PySem.Str) = some .globalImplicit) : Ev G c m σ (.Name "_law_scopes_right" pos) (.glob (.ref 328)) σ := ev_globalB hx (v' := .ref 328) (by kernel_rfl!) fun _ => .glob _
theorem g_Writer (hx : (scopeOf c).names.lookup ("Writer" : PySem.Str) = some .globalImplicit) : Ev G c m σ (.Name "Writer" pos) (.glob (.ref 260)) σ := ev_globalB hx (v' := .ref 260) (by kernel_rfl!) fun _ => .glob _
theorem g_Scope (hx : (scopeOf c).names.lookup ("Scope" : PySem.Str) = some .globalImplicit) : Ev G c m σ (.Name "Scope" pos) (.glob (.ref 152)) σ := ev_globalB hx (v' := .ref 152) (by kernel_rfl!) fun _ => .glob _
theorem g_Code (hx : (scopeOf c).names.lookup ("Code" : PySem.Str) = some .globalImplicit) : Ev G c m σ (.Name "Code" pos) (.glob (.ref 98)) σ := ev_globalB hx (v' := .ref 98) (by kernel_rfl!) fun _ => .glob _
theorem g_LowerFault (hx : (scopeOf c).names.lookup ("LowerFault" : PySem.Str) = some .globalImplicit) : Ev G c m σ (.Name "LowerFault" pos) (.glob (.ref 52)) σ := ev_globalB hx (v' := .ref 52) (by kernel_rfl!) fun _ => .glob _
theorem g_SHAPES (hx : (scopeOf c).names.lookup ("SHAPES" : PySem.Str) = some .globalImplicit) : Ev G c m σ (.Name "SHAPES" pos) (.glob (.ref 68)) σ := ev_globalB hx (v' := .ref 68) (by kernel_rfl!) fun _ => .glob _
theorem g_len (hx : (scopeOf c).names.lookup ("len" : PySem.Str) = some .globalImplicit) : Ev G c m σ (.Name "len" pos) (.glob (.builtin "len")) σ := ev_builtinB hx (by kernel_rfl!) (by kernel_rfl!) (by decide +kernel)
theorem g_int (hx : (scopeOf c).names.lookup ("int" : PySem.Str) = some .globalImplicit) : Ev G c m σ (.Name "int" pos) (.glob (.type "int")) σ := ev_builtinB hx (by kernel_rfl!) (by kernel_rfl!) (by decide +kernel)
theorem g_range (hx : (scopeOf c).names.lookup ("range" : PySem.Str) = some .globalImplicit) : Ev G c m σ (.Name "range" pos) (.glob (.type "range")) σ := ev_builtinB hx (by kernel_rfl!) (by kernel_rfl!) (by decide +kernel)
theorem g_tuple (hx : (scopeOf c).names.lookup ("tuple" : PySem.Str) = some .globalImplicit) : Ev G c m σ (.Name "tuple" pos) (.glob (.type "tuple")) σ := ev_builtinB hx (by kernel_rfl!) (by kernel_rfl!) (by decide +kernel)
theorem g_zip (hx : (scopeOf c).names.lookup ("zip" : PySem.Str) = some .globalImplicit) : Ev G c m σ (.Name "zip" pos) (.glob (.type "zip")) σ := ev_builtinB hx (by kernel_rfl!) (by kernel_rfl!) (by decide +kernel)
theorem g_Exception (hx : (scopeOf c).names.lookup ("Exception" : PySem.Str) = some .globalImplicit) : Ev G c m σ (.Name "Exception" pos) (.glob (.type "Exception")) σ := ev_builtinB hx (by kernel_rfl!) (by kernel_rfl!) (by decide +kernel)
theorem g_ENDS (hx : (scopeOf c).names.lookup ("ENDS" : PySem.Str) = some .globalImplicit) : Ev G c m σ (.Name "ENDS" pos) (.tup [.str "goto", .str "return", .str "rethrow"]) σ := ev_globalB hx (v' := .ref 70) (by kernel_rfl!) fun _ => .tupK (n := 0) (ws := [.str "goto" 339, .str "return" 340, .str "rethrow" 341]) (by kernel_rfl!) (.cons (.str _ _) (.cons (.str _ _) (.cons (.str _ _) .nil)))
theorem g_NOTHING (hx : (scopeOf c).names.lookup ("NOTHING" : PySem.Str) = some .globalImplicit) : Ev G c m σ (.Name "NOTHING" pos) (.tup [.str "nothing"]) σ := ev_globalB hx (v' := .ref 67) (by kernel_rfl!) fun _ => .tupK (n := 0) (ws := [.str "nothing" 259]) (by kernel_rfl!) (.cons (.str _ _) .nil)
end
end SM16
section SM17
theorem lk_here {x : PySem.Str} {v : AV} {r : List (PySem.Str × AV)} : lk x ((x, v) :: r) = some v := if_pos rfl
theorem lk_there {x y : PySem.Str} {u : AV} {r : List (PySem.Str × AV)} {o : Option AV} (hn : decide (x = y) = false) (h : lk x r = o) : lk x ((y, u) :: r) = o := by
  unfold lk; rw [if_neg (of_decide_eq_false hn)]; exact h
theorem lk_nil {x : PySem.Str} : lk x [] = none := rfl
theorem put_here {x : PySem.Str} {v u : AV} {r : List (PySem.Str × AV)} : put x v ((x, u) :: r) = (x, v) :: r := if_pos rfl
theorem put_there {x y : PySem.Str} {v u : AV} {r r' : List (PySem.Str × AV)} (hn : decide (x = y) = false) (h : put x v r = r') : put x v ((y, u) :: r) = (y, u) :: r' := by
  unfold put; rw [if_neg (of_decide_eq_false hn), h]
theorem put_nil {x : PySem.Str} {v : AV} : put x v [] = [(x, v)] := rfl
theorem at_set_eq {σ : List AO} {i : Nat} {x y : AO} (h : σ[i]? = some y) : (σ.set i x)[i]? = some x := by
  rw [List.getElem?_set_self (List.getElem?_eq_some_iff.mp h).1]
theorem at_set_ne {σ : List AO} {i j : Nat} {x y : AO} (hn : i ≠ j) (h : σ[j]? = some y) : (σ.set i x)[j]? = some y := by
  rw [List.getElem?_set_ne hn]; exact h
theorem at_zero {a : AO} {l : List AO} : (a :: l)[0]? = some a := rfl
theorem at_cons {a y : AO} {l : List AO} {k : Nat} (h : l[k]? = some y) : (a :: l)[k + 1]? = some y := by simpa using h
theorem at_push {x : AO} {l : List AO} {k : Nat} (h : l.length = k) : (l ++ [x])[k]? = some x := by subst h; simp
theorem at_old {x y : AO} {l : List AO} {k : Nat} (h : l[k]? = some y) : (l ++ [x])[k]? = some y := by
  rw [List.getElem?_append_left (List.getElem?_eq_some_iff.mp h).1]; exact h
theorem len_succ {α : Type} {n : Nat} {ws : List α} (h : ws.length = n + 1) : ∃ a r, ws = a :: r ∧ r.length = n := by
  cases ws with
  | nil => cases h
  | cons a r => exact ⟨a, r, rfl, Nat.succ.inj h⟩
theorem len1 {α β : Type} {ws : List α} {x : β} (h : ws.length = [x].length) : ∃ a, ws = [a] := by
  obtain ⟨a, r, rfl, h1⟩ := len_succ h
  obtain rfl := List.eq_nil_of_length_eq_zero h1
  exact ⟨a, rfl⟩
theorem len2 {α β : Type} {ws : List α} {x y : β} (h : ws.length = [x, y].length) : ∃ a b, ws = [a, b] := by
  obtain ⟨a, r, rfl, h1⟩ := len_succ h
  obtain ⟨b, rfl⟩ := len1 (x := y) h1
  exact ⟨a, b, rfl⟩
theorem len3 {α β : Type} {ws : List α} {x y z : β} (h : ws.length = [x, y, z].length) : ∃ a b c, ws = [a, b, c] := by
  obtain ⟨a, r, rfl, h1⟩ := len_succ h
  obtain ⟨b, c, rfl⟩ := len2 (x := y) (y := z) h1
  exact ⟨a, b, c, rfl⟩
theorem len4 {α β : Type} {ws : List α} {x y z u : β} (h : ws.length = [x, y, z, u].length) : ∃ a b c d, ws = [a, b, c, d] := by
  obtain ⟨a, r, rfl, h1⟩ := len_succ h
  obtain ⟨b, c, d, rfl⟩ := len3 (x := y) (y := z) (z := u) h1
  exact ⟨a, b, c, d, rfl⟩
theorem len5 {α β : Type} {ws : List α} {x y z u v : β} (h : ws.length = [x, y, z, u, v].length) : ∃ a b c d e, ws = [a, b, c, d, e] := by
  obtain ⟨a, r, rfl, h1⟩ := len_succ h
  obtain ⟨b, c, d, e, rfl⟩ := len4 (x := y) (y := z) (z := u) (u := v) h1
  exact ⟨a, b, c, d, e, rfl⟩
theorem len8 {α β : Type} {ws : List α} {x y z u v p q r : β} (h : ws.length = [x, y, z, u, v, p, q, r].length) : ∃ a b c d e f g i, ws = [a, b, c, d, e, f, g, i] := by
  obtain ⟨a, r1, rfl, h1⟩ := len_succ h
  obtain ⟨b, r2, rfl, h2⟩ := len_succ h1
  obtain ⟨c, r3, rfl, h3⟩ := len_succ h2
  obtain ⟨d, e, f, g, i, rfl⟩ := len5 (x := u) (y := v) (z := p) (u := q) (v := r) h3
  exact ⟨a, b, c, d, e, f, g, i, rfl⟩
theorem pls_append {n : Nat} : ∀ {l r : List AV}, pls n (l ++ r) = (pls n l && pls n r)
  | [], r => by simp [pls]
  | v :: l, r => by simp [pls, pls_append (l := l), Bool.and_assoc]
theorem pls_last_nm {n : Nat} {l rest : List AV} {nm : PySem.Str} (h : pls (n + 1) (l ++ [.tup (.str nm :: rest)]) = true) : pl (n + 1) (.str nm) = true := by
  rw [pls_append, Bool.and_eq_true] at h
  have h2 := h.2
  simp only [pls, pl, Bool.and_true, Bool.and_eq_true] at h2
  exact h2.1
theorem fmod_bounds (a : Int) {n : Int} (hn : 0 < n) : 0 ≤ a.fmod n ∧ a.fmod n < n := ⟨Int.fmod_nonneg_of_pos a hn, Int.fmod_lt_of_pos a hn⟩
section
variable {G : Gl} {c : Cx} {F : Fm} {ω ω' : Wd} {m m₁ m' : List (PySem.Str × AV)} {σ σ₁ σ₂ σ₃ σ' : List AO} {e l r : Expr} {pos pos' : Pos} {v a b : AV} {st : Stmt} {ss : List Stmt} {fl : AF} {x : PySem.Str} {es : List Expr} {vs : List AV} {f : Value}
theorem ev_nm (h : Ev G c m σ (.Name x pos) v σ') : Ev G c m σ (.Name x pos) v σ' := h
theorem s_if_T {t : Expr} {b1 b2 : List Stmt} {y : Bool} (h : Tt G c m σ t y σ₁) (hy : y = true) (h1 : Sx G c m σ₁ b1 fl m' σ') : S1 G c m σ (.If t b1 b2 pos) fl m' σ' := s_if_t (hy ▸ h) h1
theorem s_if_F {t : Expr} {b1 b2 : List Stmt} {y : Bool} (h : Tt G c m σ t y σ₁) (hy : y = false) (h1 : Sx G c m σ₁ b2 fl m' σ') : S1 G c m σ (.If t b1 b2 pos) fl m' σ' := s_if_f (hy ▸ h) h1
theorem s_if_F0 {t : Expr} {b1 : List Stmt} {y : Bool} (h : Tt G c m σ t y σ') (hy : y = false) : S1 G c m σ (.If t b1 [] pos) .next m σ' := s_if_f (hy ▸ h) sx_nil
theorem sn_put (hb : c.blk = none) (hx : c.cs.names.lookup x = some .local) (hm : put x v m = m') : Sn G c m σ x v m' σ := hm ▸ sn_local hb hx
theorem sn_blockP {bk : Blk} {mb mb' : List (PySem.Str × AV)} (hb : c.blk = some bk) (hx : bk.sc.names.lookup x = some .local) (hn : σ[bk.l]? = some (.ns mb)) (hm : put x v mb = mb') : Sn G c m σ x v m (σ.set bk.l (.ns mb')) := hm ▸ sn_block hb hx hn
theorem si_dictP {i : Nat} {ds ds' : List (PySem.Str × AV)} (hi : σ[i]? = some (.dict ds)) (hp : put x v ds = ds') (hz : ds.length ≤ sizeLine) : Si G σ (.loc i) (.str x) v (σ.set i (.dict ds')) := hp ▸ si_dict hi hz
theorem sa_instP {i d : Nat} {C : Addr} {es es' : List (PySem.Str × AV)} (hi : σ[i]? = some (.inst C d)) (hd : σ[d]? = some (.idict es)) (hm : put x v es = es')
    (hs : findIn G.K (.ref C) "__setattr__" = some (some (.builtin "object.__setattr__"))) (hp : plainOver G.K C = true) (ht : takerIn G.K C x = some none) (hh : hasDictIn G.K C = true) (hz : es.length ≤ 900) :
    Sa G σ (.loc i) x v (σ.set d (.idict es')) := hm ▸ sa_inst hi hd hs hp ht hh hz
theorem it_last {sl : Expr} {i : Nat} (hi : σ[i]? = some (.list (vs ++ [v]))) (hz : vs.length < 1000000) (hs : plainSub sl := by ked_read) : It G sl σ (.loc i) (.int (-1)) v σ :=
  it_list_neg hi (by decide) (by simp; omega) (by
    have e : ((-1 : Int) + ((vs ++ [v]).length : Nat)).toNat = vs.length := by simp; omega
    rw [e]; simp) (by simp; omega) hs
theorem it_tup0 {sl : Expr} (hs : plainSub sl := by ked_read) : It G sl σ (.tup (v :: vs)) (.int 0) v σ :=
  it_tup (j := 0) (by unfold seqIndex?; simp) rfl (by decide) (by decide) hs
theorem at_or_T {es : List Expr} {y : Bool} (h : Tt G c m σ e y σ') (hy : y = true) : At G c m .Or σ (e :: es) true σ' := at_or_t (hy ▸ h)
theorem at_or_F {es : List Expr} {y z : Bool} (h : Tt G c m σ e y σ₁) (hy : y = false) (h2 : At G c m .Or σ₁ es z σ') : At G c m .Or σ (e :: es) z σ' := at_or_f (hy ▸ h) h2
theorem at_and_T {es : List Expr} {y z : Bool} (h : Tt G c m σ e y σ₁) (hy : y = true) (h2 : At G c m .And σ₁ es z σ') : At G c m .And σ (e :: es) z σ' := at_and_t (hy ▸ h) h2
theorem at_and_F {es : List Expr} {y : Bool} (h : Tt G c m σ e y σ') (hy : y = false) : At G c m .And σ (e :: es) false σ' := at_and_f (hy ▸ h)
theorem rd_tup (h : pl 9 (.tup vs) = true) : Rd G σ (.tup vs) (.tuple (pyds vs)) := rd_val h
theorem ev_if_T {t : Expr} {y : Bool} (h : Tt G c m σ t y σ₁) (hy : y = true) (h1 : Ev G c m σ₁ l v σ') : Ev G c m σ (.IfExp t l r pos) v σ' := ev_if_t (hy ▸ h) h1
theorem ev_if_F {t : Expr} {y : Bool} (h : Tt G c m σ t y σ₁) (hy : y = false) (h1 : Ev G c m σ₁ r v σ') : Ev G c m σ (.IfExp t l r pos) v σ' := ev_if_f (hy ▸ h) h1
theorem s1_to {m₂ : List (PySem.Str × AV)} (h : S1 G c m σ st fl m₁ σ₁) (e1 : m₁ = m₂) (e2 : σ₁ = σ₂) : S1 G c m σ st fl m₂ σ₂ := by subst e1 e2; exact h
theorem lkN_here {x : PySem.Str} {i : Nat} {r : List (PySem.Str × Nat)} : lkN x ((x, i) :: r) = some i := if_pos rfl
theorem lkN_there {x y : PySem.Str} {j : Nat} {r : List (PySem.Str × Nat)} {o : Option Nat} (hn : decide (x = y) = false) (h : lkN x r = o) : lkN x ((y, j) :: r) = o := by
  unfold lkN; rw [if_neg (of_decide_eq_false hn)]; exact h
theorem ev_cellF {k : Nat} {q : PySem.Str} {s : Scope} {fa : Addr} {cd : Value} {cs : List (PySem.Str × Nat)} {i : Nat} (hx : s.names.lookup x = some .cell) (hi : lkN x cs = some i) (hv : σ[i]? = some (.cell (some v))) (hd : (x == ("__debug__" : PySem.Str)) = false) :
    Ev G ⟨k, q, s, fa, cd, cs, none⟩ m σ (.Name x pos) v σ := ev_cellB (c := ⟨k, q, s, fa, cd, cs, none⟩) hx hi hv hd
theorem ev_cellI {sc : Scope} {l : Nat} {cs : List (PySem.Str × Nat)} {i : Nat} (hx : (relS sc (scopeOf c)).names.lookup x = some .cell) (hi : lkN x cs = some i) (hv : σ[i]? = some (.cell (some v))) (hd : (x == ("__debug__" : PySem.Str)) = false) :
    Ev G (c.into sc l cs) m σ (.Name x pos) v σ := ev_cellB (c := c.into sc l cs) hx hi hv hd
theorem ev_localI {sc : Scope} {l : Nat} {cs : List (PySem.Str × Nat)} {mb : List (PySem.Str × AV)} (hx : (relS sc (scopeOf c)).names.lookup x = some .local) (hn : σ[l]? = some (.ns mb)) (hv : lk x mb = some v) (hd : (x == ("__debug__" : PySem.Str)) = false) :
    Ev G (c.into sc l cs) m σ (.Name x pos) v σ := ev_localB (c := c.into sc l cs) rfl hx hn hv hd
theorem sn_cellF {k : Nat} {q : PySem.Str} {s : Scope} {fa : Addr} {cd : Value} {cs : List (PySem.Str × Nat)} {i : Nat} {v₀ : Option AV} (hx : s.names.lookup x = some .cell) (hi : lkN x cs = some i) (ho : σ[i]? = some (.cell v₀)) :
    Sn G ⟨k, q, s, fa, cd, cs, none⟩ m σ x v m (σ.set i (.cell (some v))) := sn_cellB (c := ⟨k, q, s, fa, cd, cs, none⟩) hx hi ho
theorem sn_blockI {sc : Scope} {l : Nat} {cs : List (PySem.Str × Nat)} {mb mb' : List (PySem.Str × AV)} (hx : (relS sc (scopeOf c)).names.lookup x = some .local) (hn : σ[l]? = some (.ns mb)) (hm : put x v mb = mb') :
    Sn G (c.into sc l cs) m σ x v m (σ.set l (.ns mb')) := sn_blockP (c := c.into sc l cs) (bk := ⟨relS sc (scopeOf c), l, cs⟩) rfl hx hn hm
theorem sx_next (h : S1 G c m σ st .next m₁ σ₁) (h2 : Sx G c m₁ σ₁ ss fl m' σ') : Sx G c m σ (st :: ss) fl m' σ' := sx_cons h h2
theorem sx_to {fl' : AF} (h : Sx G c m σ ss fl m' σ₁) (e1 : fl = fl') (e2 : σ₁ = σ') : ∃ m', Sx G c m σ ss fl' m' σ' := by subst e1 e2; exact ⟨_, h⟩
end
end SM17
section SM18
theorem bindL_lk {kd : PySem.Str → Option NameKind} {x : PySem.Str} (hx : kd x = some .local) : ∀ {l : List (PySem.Str × Value)} {m : PySem.Str → Option Value}, (l.map (·.1)).Nodup → bindL kd l m x = (l.lookup x).or (m x)
  | [], m, _ => by simp [bindL]
  | (n, v) :: r, m, hn => by
    rw [List.map_cons, List.nodup_cons] at hn
    rw [bindL, bindL_lk hx hn.2, List.lookup_cons]
    by_cases q : x = n
    · subst q
      rw [lookup_none_of hn.1, if_pos hx]
      simp
    · have hb : (x == n) = false := by simpa using q
      rw [hb]
      split
      · simp [q]
      · rfl
theorem bindC_lk {kd : PySem.Str → Option NameKind} {x : PySem.Str} (hx : kd x ≠ some .local) : ∀ {l : List (PySem.Str × Value)} {m : PySem.Str → Option Value}, (l.map (·.1)).Nodup → bindC kd l m x = (l.lookup x).or (m x)
  | [], m, _ => by simp [bindC]
  | (n, v) :: r, m, hn => by
    rw [List.map_cons, List.nodup_cons] at hn
    rw [bindC, bindC_lk hx hn.2, List.lookup_cons]
    by_cases q : x = n
    · subst q
      rw [lookup_none_of hn.1, if_neg hx]
      simp
    · have hb : (x == n) = false := by simpa using q
      rw [hb]
      split
      · rfl
      · simp [q]
theorem zipLk0 {K : Frag} {ω : Wd} {x : PySem.Str} : ∀ {xs : List PySem.Str} {vs : List AV} {ws : List Value}, VRs K ω vs ws → lk x (xs.zip vs) = none → (xs.zip ws).lookup x = none
  | [], _, _, _, e => by simp
  | _ :: _, _, _, .nil, e => by simp
  | y :: xs, _, _, .cons (x := u) h r, e => by
    simp only [List.zip_cons_cons, lk] at e
    by_cases q : x = y
    · rw [if_pos q] at e; cases e
    · rw [if_neg q] at e
      have hb : (x == y) = false := by simpa using q
      rw [List.zip_cons_cons, List.lookup_cons, hb]
      exact zipLk0 r e
theorem lk_filter {x : PySem.Str} {p : PySem.Str → Bool} {v : AV} : ∀ {l : List (PySem.Str × AV)}, lk x (l.filter fun q => p q.1) = some v → p x = true ∧ lk x l = some v
  | [], e => by simp [lk] at e
  | (y, u) :: l, e => by
    rw [List.filter_cons] at e
    split at e
    · rename_i hp
      unfold lk at e ⊢
      by_cases q : x = y
      · rw [if_pos q] at e ⊢
        exact ⟨q ▸ hp, e⟩
      · rw [if_neg q] at e ⊢
        exact lk_filter e
    · rename_i hp
      obtain ⟨h1, h2⟩ := lk_filter e
      refine ⟨h1, ?_⟩
      unfold lk
      rw [if_neg (fun (q : x = y) => hp (by rw [← q]; exact h1))]
      exact h2
theorem cellsFrom_addr : ∀ (names : List (PySem.Str × NameKind)) (n : Nat) (acc : List (PySem.Str × Addr)) (lo : Nat), (acc.map (·.2)).Nodup → (∀ a ∈ acc.map (·.2), @LT.lt Nat _ a n ∧ @LE.le Nat _ lo a) → lo ≤ n →
    ((cellsFrom n names acc).map (·.2)).Nodup ∧ ∀ a ∈ (cellsFrom n names acc).map (·.2), @LE.le Nat _ lo a
  | [], n, acc, lo, h1, h2, _ => ⟨h1, fun a ha => (h2 a ha).2⟩
  | (y, k) :: r, n, acc, lo, h1, h2, h3 => by
    unfold cellsFrom
    split
    · refine cellsFrom_addr r (n + 1) ((y, n) :: acc) lo ?_ ?_ (Nat.le_succ_of_le h3)
      · rw [List.map_cons, List.nodup_cons]
        exact ⟨fun q => Nat.lt_irrefl _ (h2 n q).1, h1⟩
      · intro a ha
        rcases List.mem_cons.mp ha with rfl | ha
        · exact ⟨Nat.lt_succ_self _, h3⟩
        · exact ⟨Nat.lt_succ_of_lt (h2 a ha).1, (h2 a ha).2⟩
    · exact cellsFrom_addr r n acc lo h1 h2 h3
theorem cellsFrom_fst : ∀ (names : List (PySem.Str × NameKind)) (n n' : Nat) (acc acc' : List (PySem.Str × Addr)), acc.map (·.1) = acc'.map (·.1) → (cellsFrom n names acc).map (·.1) = (cellsFrom n' names acc').map (·.1)
  | [], _, _, _, _, h => h
  | (y, k) :: r, n, n', acc, acc', h => by
    unfold cellsFrom
    split
    · exact cellsFrom_fst r _ _ _ _ (by simp [h])
    · exact cellsFrom_fst r _ _ _ _ h
theorem cellsAre_fst {cm : PySem.Str → Option Value} {cs : List (PySem.Str × Addr)} {cells : List (Addr × Obj)} (h : CellsAre cm cs cells) : cells.map (·.1) = cs.map (·.2) := by
  induction h with
  | nil => rfl
  | cons _ _ ih => simp [ih]
theorem lv_app {ys : List AO} {bs : List Addr} {ps : List Obj} : ∀ {xs : List AO} {as : List Addr} {os : List Obj}, xs.length = as.length → as.length = os.length → lv (xs ++ ys) (as ++ bs) (os ++ ps) = lv xs as os ++ lv ys bs ps
  | [], [], [], _, _ => rfl
  | [], _ :: _, _, h, _ => by simp at h
  | _ :: _, [], _, h, _ => by simp at h
  | [], [], _ :: _, _, h => by simp at h
  | _ :: _, _ :: _, [], _, h => by simp at h
  | x :: xs, a :: as, o :: os, h1, h2 => by
    simp at h1 h2
    simp only [List.cons_append, lv, lv_app h1 h2]
    split <;> rfl
theorem la_app {ys : List AO} {bs : List Addr} : ∀ {xs : List AO} {as : List Addr}, xs.length = as.length → la (xs ++ ys) (as ++ bs) = la xs as ++ la ys bs
  | [], [], _ => rfl
  | [], _ :: _, h => by simp at h
  | _ :: _, [], h => by simp at h
  | x :: xs, a :: as, h => by
    simp at h
    simp only [List.cons_append, la, la_app h]
    split <;> rfl
theorem lv_sub {xs : List AO} {as : List Addr} {os : List Obj} {p : Addr × Obj} (h : p ∈ lv xs as os) : p ∈ as.zip os := by
  obtain ⟨i, x, _, _, h3, h4⟩ := mem_lv.mp h
  exact List.mem_of_getElem? (i := i) (by rw [List.getElem?_zip_eq_some]; exact ⟨h3, h4⟩)
theorem la_sub : ∀ {xs : List AO} {as : List Addr}, (la xs as).Sublist as
  | [], _ => by simp [la]
  | _ :: _, [] => by simp [la]
  | x :: xs, a :: as => by
    unfold la
    split
    · exact la_sub.cons_cons _
    · exact la_sub.cons _
theorem ORs.app {W : World} {K : Frag} {ω : Wd} {ys : List AO} {ps : List Obj} (h' : ORs W K ω ys ps) {xs : List AO} {os : List Obj} (h : ORs W K ω xs os) : ORs W K ω (xs ++ ys) (os ++ ps) := by
  induction h with
  | nil => exact h'
  | cons h r ih => exact .cons h ih
theorem zip_fst_snd : ∀ (l : List (Addr × Obj)), (l.map (·.1)).zip (l.map (·.2)) = l
  | [] => rfl
  | p :: l => by simp [zip_fst_snd l]

section
variable {G : Gl} {c : Cx} {F : Fm} {ω ω' : Wd} {m m₁ m' ml : List (PySem.Str × AV)} {σ σ₁ σ₂ σ₃ σ' : List AO} {v a b : AV} {fl : AF} {vs : List AV}
theorem cells_ors {K : Frag} {W : World} {cm : PySem.Str → Option Value} {xs : List PySem.Str} {ws : List Value} (hv : VRs K ω vs ws) : ∀ {cs : List (PySem.Str × Addr)} {cells : List (Addr × Obj)}, CellsAre cm cs cells → (∀ n ∈ cs.map (·.1), cm n = (xs.zip ws).lookup n) →
    ORs W K ω ((cs.map (·.1)).map fun n => .cell (lk n (xs.zip vs))) (cells.map (·.2))
  | _, _, .nil, _ => .nil
  | _, _, .cons (n := n) (c := c) (o := o) (cs := cs) (cells := cells) h r, hc => by
    have hn := hc n (by simp)
    refine .cons ?_ (cells_ors hv r fun k hk => hc k (by simp at hk ⊢; exact .inr hk))
    show OR W K ω (.cell (lk n (xs.zip vs))) o
    cases q : lk n (xs.zip vs) with
    | none =>
      rw [zipLk0 hv q] at hn
      exact .cell0 (by rw [h, hn])
    | some u =>
      obtain ⟨v', h1, h2⟩ := hv.zipLk q
      rw [h1] at hn
      exact .cell (by rw [h, hn]) h2
/-- the cells of a frame by their places -/
noncomputable def cellsAt (n : Nat) : List PySem.Str → List (PySem.Str × Nat)
  | [] => []
  | x :: r => (x, n) :: cellsAt (n + 1) r
theorem celR_of {T : List (Addr × Obj)} : ∀ {cl : List (PySem.Str × Addr)} {pre : List Addr}, CelR ⟨pre ++ cl.map (·.2), T⟩ (cellsAt pre.length (cl.map (·.1))) cl
  | [], pre => trivial
  | (x, a) :: cl, pre => by
    refine ⟨rfl, ?_, ?_⟩
    · simp
    · have := celR_of (T := T) (cl := cl) (pre := pre ++ [a])
      simpa [List.append_assoc] using this
theorem St.calleeC {h : Heap} {k n : Nat} {q : PySem.Str} {sf : Stmt} {cdv : Value} {xs : List PySem.Str} {cs : List (PySem.Str × Nat)} {ca : List AO} {fa : Addr} {A : Around} {args' : List Value} {g h₁ : Heap} {L' : Addr} {cells : List (Addr × Obj)} {os : List Obj} (S : St G c F ω m σ h)
    (hnd : xs.Nodup) (hml : ml = (xs.zip vs).filter fun p => (dScope sf).names.lookup p.1 == some .local) (hn : σ.length = n)
    (hcs : cs = cellsAt n ((cellsFrom 0 (dScope sf).names []).map (·.1))) (hca : ca = ((cellsFrom 0 (dScope sf).names []).map (·.1)).map fun x => .cell (lk x (xs.zip vs)))
    (hkc : (((cellsFrom 0 (dScope sf).names []).map (·.1)).all fun x => (dScope sf).names.lookup x == some .cell) = true) (hk : (dScope sf).kind = .function)
    (hAf : A.frames = F.A.frames) (hAh : A.handled = F.A.handled) (hAd : A.depth + 4 * k + 1 ≤ 900) (hAu : A.units + 8 * k + 3 ≤ 9000) (hv : VRs G.K ω vs args') (hl : ω.as.length = os.length) (rr : ORs G.w G.K ω σ os)
    (F' : Fr g L' h₁ (bindL (envOfC q (dScope sf) L' fa cdv).kindOf (xs.zip args') fun _ => none)) (N' : News g L' h₁ (cells ++ (lv σ ω.as os ++ ω.T)))
    (Y : CellsAre (bindC (envOfC q (dScope sf) L' fa cdv).kindOf (xs.zip args') fun _ => none) (cellsFrom (L' + 1) (dScope sf).names []) cells)
    (B' : Below A F.base (envX c.cn c.cs F.L c.a c.ccd F.cl :: F.outer) g) (X' : G.K.In g) (hlt : ∀ p ∈ lv σ ω.as os ++ ω.T, p.1 < L') :
    ω.le ⟨ω.as ++ cells.map (·.1), ω.T⟩ ∧ St G ⟨k, q, dScope sf, fa, cdv, cs, none⟩ ⟨A, A.deeper (envOfC q (dScope sf) L' fa cdv), F.base, envX c.cn c.cs F.L c.a c.ccd F.cl :: F.outer, g, L', cellsFrom (L' + 1) (dScope sf).names [], 0, [], "", none⟩ ⟨ω.as ++ cells.map (·.1), ω.T⟩ ml (σ ++ ca) h₁ := by
  have hsl := S.len
  have hnz : ((xs.zip args').map (·.1)).Nodup := zip_fst_nodup hnd
  have hfst : (cellsFrom (L' + 1) (dScope sf).names []).map (·.1) = (cellsFrom 0 (dScope sf).names []).map (·.1) := cellsFrom_fst _ _ _ _ _ rfl
  obtain ⟨hcn, hcg⟩ := cellsFrom_addr (dScope sf).names (L' + 1) [] (L' + 1) List.nodup_nil (fun a ha => by cases ha) (Nat.le_refl _)
  have hca1 : cells.map (·.1) = (cellsFrom (L' + 1) (dScope sf).names []).map (·.2) := cellsAre_fst Y
  have h335 : 200 < L' := Nat.lt_trans (by decide) (Nat.lt_of_lt_of_le (Heap.lt_size (X' 335 _ rfl)) F'.above)
  have lw : ω.le ⟨ω.as ++ cells.map (·.1), ω.T⟩ := ⟨List.prefix_append _ _, fun _ h => h⟩
  have hors : ORs G.w G.K ω ca (cells.map (·.2)) := by
    rw [hca, ← hfst]
    refine cells_ors hv Y fun x hx => ?_
    rw [hfst] at hx
    have hxc := List.all_eq_true.mp hkc x hx
    rw [bindC_lk (by
      show (dScope sf).names.lookup x ≠ some .local
      rw [show (dScope sf).names.lookup x = some .cell by simpa using hxc]; simp) hnz]
    simp
  have hnd' : (la (σ ++ ca) (ω.as ++ cells.map (·.1)) ++ ω.T.map (·.1)).Nodup := by
    have nd := S.nd
    rw [la_app hsl.symm, List.append_assoc]
    rw [List.nodup_append] at nd
    have big : ∀ b ∈ la ca (cells.map (·.1)), @LT.lt Nat _ L' b := fun b hb => by
      have := la_sub.mem hb
      rw [hca1] at this
      exact hcg b this
    have small : ∀ b, b ∈ la σ ω.as ∨ b ∈ ω.T.map (·.1) → @LT.lt Nat _ b L' := fun b hb => by
      rcases hb with hb | hb
      · obtain ⟨i, x, e1, e2, e3⟩ := mem_la.mp hb
        obtain ⟨o, ho', _⟩ := rr.get e1
        exact hlt _ (St.mem e1 e2 e3 ho')
      · obtain ⟨z, hz, rfl⟩ := List.mem_map.mp hb
        exact hlt _ (List.mem_append_right _ hz)
    rw [List.nodup_append]
    refine ⟨nd.1, List.nodup_append.mpr ⟨la_sub.nodup (hca1 ▸ hcn), nd.2.1, fun b hb b' hb' z => ?_⟩, fun b hb b' hb' z => ?_⟩
    · have h1 := big b hb
      have h2 := small b' (.inr hb')
      rw [z] at h1
      exact Nat.lt_irrefl _ (Nat.lt_trans h1 h2)
    · rcases List.mem_append.mp hb' with hb' | hb'
      · have h1 := big b' hb'
        have h2 := small b (.inl hb)
        rw [← z] at h1
        exact Nat.lt_irrefl _ (Nat.lt_trans h1 h2)
      · exact nd.2.2 b hb b' hb' z
  refine ⟨lw, ?_⟩
  exact
    { hA := by show (A.deeper _).frames = _; rw [show (A.deeper (envOfC q (dScope sf) L' fa cdv)).frames = A.frames.map (envOfC q (dScope sf) L' fa cdv :: ·) from rfl, hAf, S.hA]; rfl
      hH := hAh.trans S.hH
      hD := by show A.depth + 1 + 4 * k ≤ 900; omega
      hU := by show A.units + 3 + 8 * k ≤ 9000; omega
      hK := hk
      B := B', XB := S.XB, TB := S.TB, PB := S.PB
      cel := by
        rw [hcs, ← hfst, ← hn, ← hsl]
        have := celR_of (T := ω.T) (cl := cellsFrom (L' + 1) (dScope sf).names []) (pre := ω.as)
        rw [← hca1] at this
        exact this
      blk := fun b hb => by cases hb
      lo := ⟨_, F', fun x v e => by
        rw [hml] at e
        obtain ⟨h1, h2⟩ := lk_filter (p := fun y => (dScope sf).names.lookup y == some .local) e
        rw [bindL_lk (by show (dScope sf).names.lookup x = some .local; simpa using h1) hnz]
        obtain ⟨v', h3, h4⟩ := hv.zipLk h2
        exact ⟨v', by rw [h3]; rfl, h4.mono lw⟩⟩
      hp := ⟨os ++ cells.map (·.2), fun z hz => by
        rcases List.mem_append.mp hz with hz | hz
        · rw [lv_app hsl.symm hl] at hz
          rcases List.mem_append.mp hz with hz | hz
          · exact N' z (List.mem_append_right _ (List.mem_append_left _ hz))
          · have := lv_sub hz
            rw [zip_fst_snd] at this
            exact N' z (List.mem_append_left _ this)
        · exact N' z (List.mem_append_right _ (List.mem_append_right _ hz)), by simp [hl], (hors.mono lw).app (rr.mono lw)⟩
      nd := hnd'
      t0 := lw.at S.t0
      gt := ⟨fun b hb => by
        have hb' : b ∈ la σ ω.as ++ la ca (cells.map (·.1)) := la_app hsl.symm ▸ hb
        rcases List.mem_append.mp hb' with hb | hb
        · exact S.gt.1 b hb
        · have := la_sub.mem hb
          rw [hca1] at this
          exact Nat.lt_trans h335 (hcg b this), S.gt.2.app⟩ }
theorem code_inC {k n : Nat} {q : PySem.Str} {sf : Stmt} {dV pm cdv : Value} {xs : List PySem.Str} {cs : List (PySem.Str × Nat)} {ca : List AO}
    {fa : Addr} (ho : G.K.lookup fa = some (fo sf q dV pm cdv)) (hcd : codeIn G.K cdv q = true)
    (hbind : ∀ s ws, G.K.In s.heap → ws.length = vs.length → BindsTo s (fdOf sf q dV pm cdv) ⟨ws, []⟩ (xs.zip ws))
    (hloc : (xs.all fun x => (dScope sf).names.lookup x == some .local || (dScope sf).names.lookup x == some .cell) = true) (hnd : xs.Nodup) (hlen : xs.length = vs.length)
    (hml : ml = (xs.zip vs).filter fun p => (dScope sf).names.lookup p.1 == some .local) (hn : σ.length = n)
    (hcs : cs = cellsAt n ((cellsFrom 0 (dScope sf).names []).map (·.1))) (hca : ca = ((cellsFrom 0 (dScope sf).names []).map (·.1)).map fun x => .cell (lk x (xs.zip vs)))
    (hkc : (((cellsFrom 0 (dScope sf).names []).map (·.1)).all fun x => (dScope sf).names.lookup x == some .cell) = true) (hndc : ((cellsFrom 0 (dScope sf).names []).map (·.1)).Nodup)
    (hbody : Sx G ⟨k, q, dScope sf, fa, cdv, cs, none⟩ ml (σ ++ ca) (dBody sf) fl m' σ')
    (hco : (dScope sf).isCoroutine = false) (hgen : (dScope sf).isGenerator = false) (hk : (dScope sf).kind = .function)
    {s : Shared} {args' : List Value} {A : Around} (hle : k < c.k) (S : St G c F ω m σ s.heap) (hAf : A.frames = F.A.frames) (hAh : A.handled = F.A.handled) (hAd : A.depth + 4 * k + 1 ≤ 900) (hAu : A.units + 8 * k + 3 ≤ 9000) (hv : VRs G.K ω vs args') {R : Result → Shared → Prop}
    (p : ∀ ω' v' h' tk', ω.le ω' → St G c F ω' m σ' h' → VR G.K ω' (retOf fl) v' → R (.ok (.ret v')) { s with heap := h', toks := tk' }) :
    codeAny (model P0 G.w) A (.call (.ref fa) ⟨args', []⟩) R s := by
  obtain ⟨M, Fh, hM⟩ := S.lo
  have hsl := S.len
  obtain ⟨os, N, hl, rr⟩ := S.hp
  refine code_defC (R := R) S.B Fh S.X N S.T (hAf.trans S.hA) rfl S.hK ho hcd (by show A.depth < 1000; omega) (hbind s args' (S.X.keeps Fh.keep) hv.length) ?_ hndc (fun g L' h₁ tk cells FG F' N' Y B' X' T' hlt => ?_) hco hgen hk
  · refine List.all_eq_true.mpr fun y hy => ?_
    exact List.all_eq_true.mp hloc y.1 (zip_mem_fst hy)
  · obtain ⟨lw, SC⟩ := S.calleeC (k := k) hnd hml hn hcs hca hkc hk hAf hAh hAd hAu hv hl rr F' N' Y B' X' hlt
    refine hbody ⟨A, A.deeper (envOfC q (dScope sf) L' fa cdv), F.base, envX c.cn c.cs F.L c.a c.ccd F.cl :: F.outer, g, L', cellsFrom (L' + 1) (dScope sf).names [], 0, [], "", none⟩ ⟨ω.as ++ cells.map (·.1), ω.T⟩ _ SC _ _ ?_
    intro ω' fl' h' tk' hle' S' hf
    obtain ⟨M', F'', _⟩ := S'.lo
    obtain ⟨os', N'', hl', rr'⟩ := S'.hp
    exact leaveK_ F'' N'' fun Fb Nb => p ω' _ h' tk' (lw.trans hle') (S.back (lw.trans hle') hM Fb Nb hl' rr' S'.nd S'.gt) (by cases hf with | next => exact .none | cont => exact .none | ret h => exact h)

theorem cl_defC {k n : Nat} {q : PySem.Str} {sf : Stmt} {dV pm cdv : Value} {xs : List PySem.Str} {cs : List (PySem.Str × Nat)} {ca : List AO}
    {fa : Addr} (ho : G.K.lookup fa = some (fo sf q dV pm cdv)) (hcd : codeIn G.K cdv q = true)
    (hbind : ∀ s ws, G.K.In s.heap → ws.length = vs.length → BindsTo s (fdOf sf q dV pm cdv) ⟨ws, []⟩ (xs.zip ws))
    (hloc : (xs.all fun x => (dScope sf).names.lookup x == some .local || (dScope sf).names.lookup x == some .cell) = true) (hnd : xs.Nodup) (hlen : xs.length = vs.length)
    (hml : ml = (xs.zip vs).filter fun p => (dScope sf).names.lookup p.1 == some .local) (hn : σ.length = n)
    (hcs : cs = cellsAt n ((cellsFrom 0 (dScope sf).names []).map (·.1))) (hca : ca = ((cellsFrom 0 (dScope sf).names []).map (·.1)).map fun x => .cell (lk x (xs.zip vs)))
    (hkc : (((cellsFrom 0 (dScope sf).names []).map (·.1)).all fun x => (dScope sf).names.lookup x == some .cell) = true) (hndc : ((cellsFrom 0 (dScope sf).names []).map (·.1)).Nodup)
    (hbody : Sx G ⟨k, q, dScope sf, fa, cdv, cs, none⟩ ml (σ ++ ca) (dBody sf) fl m' σ')
    (hco : (dScope sf).isCoroutine = false) (hgen : (dScope sf).isGenerator = false) (hk : (dScope sf).kind = .function) (hr : retOf fl = v) :
    Cl G (k + 1) (.ref fa) vs σ v σ' := hr ▸ fun c F ω m s args' hle S hv Q E p =>
  wpAny_call (code_inC ho hcd hbind hloc hnd hlen hml hn hcs hca hkc hndc hbody hco hgen hk (Nat.lt_of_succ_le hle) S rfl rfl (by have := S.hD; omega) (by have := S.hU; omega) hv fun ω' v' h' tk' l1 S' hv' => p ω' v' h' tk' l1 S' hv')
end
end SM18
section SM19
/-! the heap below a frame, its outer namespaces touched -/
noncomputable def cutTo (g h : Heap) : Heap := ⟨h.objs.mapIdx fun i o => if o.isFreed then o else (g.get? i).getD o, h.life⟩
theorem cutTo_size {g h : Heap} : (cutTo g h).objs.size = h.objs.size := by simp [cutTo]
theorem get_notFreed {h : Heap} {b : Addr} {o : Obj} (e : h.get? b = some o) : o.isFreed = false := (Heap.get?_some_iff.mp e).2
theorem cutTo_some {g h : Heap} {b : Addr} {o : Obj} (e : h.get? b = some o) : (cutTo g h).get? b = some ((g.get? b).getD o) := by
  obtain ⟨h1, h2⟩ := Heap.get?_some_iff.mp e
  refine Heap.get?_some_iff.mpr ⟨?_, ?_⟩
  · show (h.objs.mapIdx _)[b]? = _
    rw [Array.getElem?_mapIdx, h1]
    simp [h2]
  · cases q : g.get? b with
    | none => exact h2
    | some o' => exact get_notFreed q
theorem cutTo_none {g h : Heap} {b : Addr} (e : h.get? b = none) : (cutTo g h).get? b = none := by
  cases q : (cutTo g h).get? b with
  | none => rfl
  | some o =>
    obtain ⟨h1, h2⟩ := Heap.get?_some_iff.mp q
    have h1' : (h.objs.mapIdx fun i o => if o.isFreed then o else (g.get? i).getD o)[b]? = some o := h1
    rw [Array.getElem?_mapIdx] at h1'
    obtain ⟨o', ho', e'⟩ := Option.map_eq_some_iff.mp h1'
    by_cases hf : o'.isFreed = true
    · rw [if_pos hf] at e'
      subst e'
      rw [hf] at h2; cases h2
    · have : h.get? b = some o' := Heap.get?_some_iff.mpr ⟨ho', by simpa using hf⟩
      rw [this] at e; cases e
structure Nr (outer : List Env) (h g : Heap) : Prop where
  size : g.objs.size = h.objs.size
  off : ∀ b o, h.get? b = some o → b ∉ outer.filterMap (·.frame) → g.get? b = some o
  sl : ∀ b o, h.get? b = some o → ∃ s, g.get? b = some { o with slots := s }
  no : ∀ b, h.get? b = none → g.get? b = none
theorem Nr.refl {outer : List Env} (h : Heap) : Nr outer h h := ⟨rfl, fun _ _ e _ => e, fun _ o e => ⟨o.slots, e⟩, fun _ e => e⟩
theorem Nr.trans {outer : List Env} {h g k : Heap} (x : Nr outer h g) (y : Nr outer g k) : Nr outer h k :=
  ⟨y.size.trans x.size, fun b o e n => y.off b o (x.off b o e n) n, fun b o e => let ⟨s, e1⟩ := x.sl b o e; let ⟨s', e2⟩ := y.sl b _ e1; ⟨s', e2⟩, fun b e => y.no b (x.no b e)⟩
theorem Nr.cut {outer : List Env} {h g : Heap} (off : ∀ b o, h.get? b = some o → b ∉ outer.filterMap (·.frame) → g.get? b = some o) (sl : ∀ b o, h.get? b = some o → ∃ s, g.get? b = some { o with slots := s }) : Nr outer h (cutTo g h) :=
  ⟨cutTo_size, fun b o e n => by rw [cutTo_some e, off b o e n]; rfl, fun b o e => by
    obtain ⟨s, e1⟩ := sl b o e
    exact ⟨s, by rw [cutTo_some e, e1]; rfl⟩, fun b e => cutTo_none e⟩
noncomputable abbrev Fm.at (F : Fm) (g : Heap) : Fm := { F with h₀ := g }
theorem Nr.below {A₀ : Around} {base : Heap} {outer : List Env} {h g : Heap} (B : Below A₀ base outer h) (n : Nr outer h g) : Below A₀ base outer g :=
  ⟨B.stack, fun b o e => n.off b o (B.stays b o e) (fun hm => by rw [(B.frames.mem hm).1] at e; cases e), B.frames.of_keeps fun b o e _ => let ⟨s, q⟩ := n.sl b o e; ⟨_, q, rfl⟩⟩

section
variable {G : Gl} {c c' : Cx} {F F' : Fm} {ω ω' : Wd} {m m' : List (PySem.Str × AV)} {σ σ' : List AO} {h h' g g' : Heap}
theorem ns_slots {h h' : Heap} {L : Addr} {M : PySem.Str → Option Value} (sl : ∀ o, h.get? L = some o → ∃ s, h'.get? L = some { o with slots := s }) (n : h.Ns L M) : h'.Ns L M := by
  obtain ⟨o, es, ep, ho, hd, r⟩ := n
  obtain ⟨s, e⟩ := sl o ho
  exact ⟨_, es, ep, e, hd, r⟩
/-- the slots of the frames' namespaces -/
theorem St.slots (S : St G c F ω m σ h) (x : Heap.SlotsOnly ((envX c.cn c.cs F.L c.a c.ccd F.cl :: F.outer).filterMap (·.frame)) h h') : ∃ g, Nr F.outer F.h₀ g ∧ St G c (F.at g) ω m σ h' := by
  have hfr : (envX c.cn c.cs F.L c.a c.ccd F.cl :: F.outer).filterMap (·.frame) = F.L :: F.outer.filterMap (·.frame) := rfl
  rw [hfr] at x
  obtain ⟨M, Fh, hM⟩ := S.lo
  obtain ⟨os, N, hl, rr⟩ := S.hp
  have nL : ∀ b o, F.h₀.get? b = some o → b ≠ F.L := fun b o e q => Nat.lt_irrefl _ (Nat.lt_of_lt_of_le (Heap.lt_size (q ▸ e)) Fh.above)
  have off : ∀ b o, F.h₀.get? b = some o → b ∉ F.outer.filterMap (·.frame) → h'.get? b = some o := fun b o e n =>
    (x.2.1 b fun hm => (List.mem_cons.mp hm).elim (nL b o e) n).trans (Fh.keep b o e)
  have sl : ∀ b o, F.h₀.get? b = some o → ∃ s, h'.get? b = some { o with slots := s } := fun b o e => x.2.2 b o (Fh.keep b o e)
  have nr := Nr.cut off sl
  refine ⟨cutTo h' F.h₀, nr, { S with B := nr.below S.B, lo := ⟨M, ⟨ns_slots (fun o e => x.2.2 _ o e) Fh.ns, fun b o e => ?_, ?_⟩, hM⟩, hp := ⟨os, fun p hp => ?_, hl, rr⟩ }⟩
  · cases q : F.h₀.get? b with
    | none => rw [nr.no b q] at e; cases e
    | some o' =>
      obtain ⟨s, e1⟩ := sl b o' q
      rw [cutTo_some q, e1] at e
      cases e
      exact e1
  · show (cutTo h' F.h₀).objs.size ≤ F.L
    rw [cutTo_size]; exact Fh.above
  · obtain ⟨n1, n2, n3⟩ := N p hp
    refine ⟨(x.2.1 p.1 fun hm => ?_).trans n1, n2, nr.no _ n3⟩
    rcases List.mem_cons.mp hm with q | q
    · exact n2 q
    · obtain ⟨o, ho, _⟩ := (S.B.frames.mem q).2
      rw [ho] at n3; cases n3
/-- back in the caller, the outer namespaces touched -/
theorem St.backN (S : St G c F ω m σ h) (hle : ω.le ω') {M M' : PySem.Str → Option Value} {L' : Addr} (hM : ∀ x v, lk x m = some v → ∃ v', M x = some v' ∧ VR G.K ω v v') (FG : Fr F.h₀ F.L g M) (n : Nr (envX c.cn c.cs F.L c.a c.ccd F.cl :: F.outer) g g') (Fh : Fr g' L' h' M')
    {os : List Obj} (N : News g' L' h' (lv σ' ω'.as os ++ ω'.T)) (hl : ω'.as.length = os.length) (r : ORs G.w G.K ω' σ' os) (nd : (la σ' ω'.as ++ ω'.T.map (·.1)).Nodup) (gt : (∀ a ∈ la σ' ω'.as, 200 < a) ∧ Tb σ') :
    ∃ g0, Nr F.outer F.h₀ g0 ∧ St G c (F.at g0) ω' m σ' h' := by
  have hfr : (envX c.cn c.cs F.L c.a c.ccd F.cl :: F.outer).filterMap (·.frame) = F.L :: F.outer.filterMap (·.frame) := rfl
  have nL : ∀ b o, F.h₀.get? b = some o → b ≠ F.L := fun b o e q => Nat.lt_irrefl _ (Nat.lt_of_lt_of_le (Heap.lt_size (q ▸ e)) FG.above)
  have off : ∀ b o, F.h₀.get? b = some o → b ∉ F.outer.filterMap (·.frame) → g'.get? b = some o := fun b o e nn =>
    n.off b o (FG.keep b o e) fun hm => (List.mem_cons.mp (hfr ▸ hm)).elim (nL b o e) nn
  have sl : ∀ b o, F.h₀.get? b = some o → ∃ s, g'.get? b = some { o with slots := s } := fun b o e => n.sl b o (FG.keep b o e)
  have nr := Nr.cut off sl
  obtain ⟨oL, esL, epL, hoL, _⟩ := FG.ns
  obtain ⟨sL, hgL⟩ := n.sl _ _ hoL
  have FR : Fr (cutTo g' F.h₀) F.L h' M := by
    refine ⟨ns_slots (fun o e => let ⟨s, q⟩ := n.sl _ o e; ⟨s, Fh.keep _ _ q⟩) FG.ns, fun b o e => ?_, ?_⟩
    · cases q : F.h₀.get? b with
      | none => rw [nr.no b q] at e; cases e
      | some o' =>
        obtain ⟨s, e1⟩ := sl b o' q
        rw [cutTo_some q, e1] at e
        cases e
        exact Fh.keep _ _ e1
    · rw [cutTo_size]; exact FG.above
  have NW : News (cutTo g' F.h₀) F.L h' (lv σ' ω'.as os ++ ω'.T) := fun p hp => by
    obtain ⟨n1, n2, n3⟩ := N p hp
    refine ⟨n1, fun q => ?_, ?_⟩
    · rw [q, hgL] at n3; cases n3
    · cases q : F.h₀.get? p.1 with
      | none => exact nr.no _ q
      | some o' => obtain ⟨s, e1⟩ := sl _ o' q; rw [e1] at n3; cases n3
  exact ⟨cutTo g' F.h₀, nr,
    { hA := S.hA, hH := S.hH, hD := S.hD, hU := S.hU, hK := S.hK, B := nr.below S.B, XB := S.XB, TB := S.TB, PB := S.PB, cel := S.cel.mono hle,
      blk := fun b hb => ⟨(S.blk b hb).1, hle.at (S.blk b hb).2.1, (S.blk b hb).2.2.mono hle⟩
      lo := ⟨M, FR, fun x v e => (hM x v e).elim fun v' z => ⟨v', z.1, z.2.mono hle⟩⟩
      hp := ⟨os, NW, hl, r⟩
      nd := nd
      gt := gt
      t0 := hle.at S.t0 }⟩

/-! an exception on its way -/
noncomputable def Kp (σ σ' : List AO) : Prop := ∀ (i : Nat) (o : AO), σ[i]? = some o → (∀ t d, o ≠ AO.exc t d) → σ'[i]? = some o
theorem Kp.refl (σ : List AO) : Kp σ σ := fun _ _ e _ => e
theorem Kp.trans {a b d : List AO} (x : Kp a b) (y : Kp b d) : Kp a d := fun i o e n => y i o (x i o e n) n
structure ExcAt (σ : List AO) (j : Nat) (t : Option Nat) : Prop where
  at_ : ∃ d, σ[j]? = some (.exc t d)
  tb : ∀ i, t = some i → σ[i]? = some .tb
theorem dict_mapFields (o : Obj) (f : Array Value → Array Value) : (o.mapFields f).dict = o.dict := by
  obtain ⟨c, d, dt, sl⟩ := o; cases dt <;> rfl
theorem frameOf_congr {e e' : Env} (h : e.frame = e'.frame) : PySem.frameOf e = PySem.frameOf e' := by unfold PySem.frameOf; rw [h]

theorem St.newEntry (S : St G c F ω m σ s.heap) {j : Nat} {t : Option Nat} {a : Addr} {env : Env} {head : Value} {hadNext : Bool} (X : ExcAt σ j t) (hj : ω.as[j]? = some a) (hf : env.frame = some F.L) {Q : Unit → Shared → Prop} {E : Value → Shared → Prop}
    (p : ∀ g ω' σ' i h', Nr F.outer F.h₀ g → ω.le ω' → Kp σ σ' → ExcAt σ' j (some i) → St G c (F.at g) ω' m σ' h' → Q () { s with heap := h' }) :
    wpAny (model P0 G.w) F.A (do let a' ← PySem.frameOf env; let pl ← entryPlaceOf F.L hadNext; let b ← EntryCells.newEntry head a' .none (rawInt F.L) .none pl; setField (.ref a) 1 b) Q E s := by
  have hfe : env.frame = (envX c.cn c.cs F.L c.a c.ccd F.cl).frame := hf
  rw [frameOf_congr hfe]
  obtain ⟨M, Fh, hM⟩ := S.lo
  have fr : s.heap.FunFrames F.base (envX c.cn c.cs F.L c.a c.ccd F.cl :: F.outer) := by
    obtain ⟨oL, es, ep, ho, hd, _⟩ := Fh.ns
    refine ⟨?_, ⟨F.L, oL, rfl, ?_, ho, fun vs q => by rw [hd] at q; cases q⟩, S.B.frames.of_keeps fun b o e _ => ⟨o, Fh.keep b o e, rfl⟩⟩
    · show c.cs.kind ≠ .module
      rw [S.hK]; decide
    · cases q : F.base.get? F.L with
      | none => rfl
      | some o => exact absurd (Nat.lt_of_lt_of_le (Heap.lt_size (S.B.stays _ _ q)) Fh.above) (Nat.lt_irrefl _)
  refine wpAny_bind (wpAny_frameOf_fun S.hA fr rfl fun h₁ hs₁ => ?_)
  obtain ⟨g, nr, S₁⟩ := S.slots hs₁
  refine wpAny_bind (wpAny_entryPlaceOf fun pl hpl => ?_)
  unfold EntryCells.newEntry newFields
  refine wpAny_bind (wpAny_newObj_type ?_ (hpl.sizeOk5 _ _ _ _ _))
  obtain ⟨S₂, e₂⟩ := S₁.pushed (o := { cls := .type "traceback", dict := none, data := .fields ([head, .ref F.L, .none, rawInt F.L, .none] ++ (if pl.isEmpty then List.replicate 6 Value.none else pl)).toArray }) (y := .tb) rfl
    (.tb rfl (by simp only [List.size_toArray, List.length_append, List.length_cons, List.length_nil]; omega))
  obtain ⟨d, hσ⟩ := X.at_
  have hσ₂ : (σ ++ [AO.tb])[j]? = some (.exc t d) := at_old hσ
  have lp := Wd.le_push ω h₁.objs.size
  obtain ⟨o, ho, hr⟩ := S₂.atL hσ₂ (lp.at hj)
  replace hr := hr.m
  obtain ⟨_, r1, r2, r3, r4, r5, r6, r7⟩ := hr
  rename_i vs
  refine wpAny_setField ho r2 (by omega) ?_
  refine p g (ω.push h₁.objs.size) _ σ.length _ nr lp ?_ ?_ (S₂.upd hσ₂ (lp.at hj) (Heap.SameBut.update ..) (Heap.get?_update_self _ ho (Obj.isFreed_of_fields (Obj.data_mapFields r2 _))) (.exc (t := some σ.length) (d := d) (by rw [Obj.cls_mapFields]; exact r1) (Obj.data_mapFields r2 _) (by rw [Array.size_setIfInBounds]; exact r3) (fun i q => ?_) (fun q => by cases q) (fun i q => ?_) (fun q => ?_)))
  · intro i o' e n
    have : i ≠ j := fun q => by rw [q, hσ] at e; exact n t d (Option.some.inj e).symm
    rw [List.getElem?_set_ne this.symm]
    exact at_old e
  · refine ⟨⟨d, at_set_eq hσ₂⟩, fun i q => ?_⟩
    cases q
    have : j < σ.length := (List.getElem?_eq_some_iff.mp hσ).1
    rw [List.getElem?_set_ne (by omega)]
    exact at_push rfl
  · cases q
    exact ⟨_, e₂, by rw [Array.getElem?_setIfInBounds_self_of_lt (by omega)]⟩
  · obtain ⟨a', q1, q2⟩ := r6 i q
    exact ⟨a', q1, (dict_mapFields o _).trans q2⟩
  · exact (dict_mapFields o _).trans (r7 q)
theorem St.note {s : Shared} (S : St G c F ω m σ s.heap) {j : Nat} {t : Option Nat} {a : Addr} {env : Env} (X : ExcAt σ j t) (hj : ω.as[j]? = some a) (hf : env.frame = some F.L) {Q : Unit → Shared → Prop} {E : Value → Shared → Prop}
    (p : ∀ g ω' σ' i h', Nr F.outer F.h₀ g → ω.le ω' → Kp σ σ' → ExcAt σ' j (some i) → St G c (F.at g) ω' m σ' h' → Q () { s with heap := h' }) :
    wpAny (model P0 G.w) F.A (noteFrame (.ref a) env) Q E s := by
  obtain ⟨d, hσ⟩ := X.at_
  obtain ⟨o, ho, hr⟩ := S.atL hσ hj
  unfold noteFrame
  simp only [hf]
  replace hr := hr.m
  obtain ⟨_, r1, r2, r3, r4, r5, r6, r7⟩ := hr
  cases t with
  | none =>
    refine wpAny_bind (wpAny_field ho r2 (r5 rfl) ?_)
    rw [if_neg (by decide)]
    exact S.newEntry X hj hf p
  | some i =>
    obtain ⟨T, hT, h1⟩ := r4 i rfl
    obtain ⟨oT, hoT, hrT⟩ := S.atL (X.tb i rfl) hT
    replace hrT := hrT.m
    obtain ⟨_, q1, q2⟩ := hrT
    rename_i ts
    refine wpAny_bind (wpAny_field ho r2 h1 ?_)
    rw [if_pos (show (Value.ref T != Value.none) = true from by simp)]
    refine wpAny_bind (wpAny_field hoT q1 (Array.getElem?_eq_getElem q2) ?_)
    by_cases hx : (ts[3] == rawInt F.L) = true
    · rw [if_pos hx]
      exact wpAny_pure (p F.h₀ ω σ i s.heap (.refl _) (.refl ω) (.refl σ) X S)
    · rw [if_neg hx]
      refine wpAny_bind (wpAny_setField hoT q1 q2 ?_)
      have S' := S.upd (X.tb i rfl) hT (Heap.SameBut.update s.heap T (Obj.mapFields (·.setIfInBounds 3 Value.none))) (Heap.get?_update_self _ hoT (Obj.isFreed_of_fields (Obj.data_mapFields q1 _))) (.tb (Obj.data_mapFields q1 _) (by rw [Array.size_setIfInBounds]; exact q2))
      have es : σ.set i AO.tb = σ := by
        have := X.tb i rfl
        apply List.ext_getElem?
        intro k
        by_cases hk : i = k
        · subst hk; rw [at_set_eq this, this]
        · rw [List.getElem?_set_ne hk]
      rw [es] at S'
      exact S'.newEntry (s := { s with heap := _ }) X hj hf p
theorem St.flight {A : Around} {s : Shared} (S : St G c F ω m σ s.heap) {j i : Nat} {a : Addr} {fl : Option Addr} (X : ExcAt σ j (some i)) (hj : ω.as[j]? = some a) {Q : Unit → Shared → Prop} {E : Value → Shared → Prop}
    (p : ∀ h', St G c F ω m σ h' → Q () { s with heap := h' }) : wpAny (model P0 G.w) A (setFlight (.ref a) fl) Q E s := by
  obtain ⟨d, hσ⟩ := X.at_
  obtain ⟨o, ho, hr⟩ := S.atL hσ hj
  unfold setFlight
  replace hr := hr.m
  obtain ⟨_, r1, r2, r3, r4, r5, r6, r7⟩ := hr
  obtain ⟨T, hT, h1⟩ := r4 i rfl
  obtain ⟨oT, hoT, hrT⟩ := S.atL (X.tb i rfl) hT
  replace hrT := hrT.m
  obtain ⟨_, q1, q2⟩ := hrT
  rename_i ts
  refine wpAny_bind (wpAny_field ho r2 h1 ?_)
  rw [if_pos (show (Value.ref T != Value.none) = true from by simp)]
  refine wpAny_setField hoT q1 q2 ?_
  have S' := S.upd (X.tb i rfl) hT (Heap.SameBut.update s.heap T (Obj.mapFields (·.setIfInBounds 3 (fl.elim Value.none fun f => rawInt f)))) (Heap.get?_update_self _ hoT (Obj.isFreed_of_fields (Obj.data_mapFields q1 _))) (.tb (Obj.data_mapFields q1 _) (by rw [Array.size_setIfInBounds]; exact q2))
  have es : σ.set i AO.tb = σ := by
    have := X.tb i rfl
    apply List.ext_getElem?
    intro k
    by_cases hk : i = k
    · subst hk; rw [at_set_eq this, this]
    · rw [List.getElem?_set_ne hk]
  rw [es] at S'
  exact p _ S'
/-- the frame is left by the exception -/
theorem St.leavingE {s : Shared} (S : St G c F ω m σ s.heap) {j : Nat} {t : Option Nat} {a : Addr} {env : Env} (X : ExcAt σ j t) (hj : ω.as[j]? = some a) (hf : env.frame = some F.L) {Q : Unit → Shared → Prop} {E : Value → Shared → Prop}
    (p : ∀ g ω' σ' i h', Nr F.outer F.h₀ g → ω.le ω' → Kp σ σ' → ExcAt σ' j (some i) → St G c (F.at g) ω' m σ' h' → Q () { s with heap := h' }) :
    wpAny (model P0 G.w) F.A (leaving env (.ref a)) Q E s := by
  unfold leaving
  refine wpAny_bind (S.note X hj hf fun g ω' σ' i h' n l k X' S' => ?_)
  exact S'.flight (s := { s with heap := h' }) X' (l.at hj) fun h'' S'' => p g ω' σ' i h'' n l k X' S''
end
end SM19
section SM20
/-- what stands behind a raise: only frames' slots, the exception and its records differ from σ₁ -/
noncomputable def PoE (G : Gl) (c : Cx) (F : Fm) (ω : Wd) (m' : List (PySem.Str × AV)) (σ₁ : List AO) (tr : Bool) (s : Shared) (E : Value → Shared → Prop) : Prop :=
  ∀ g ω' σ' j t a h' tk', Nr F.outer F.h₀ g → ω.le ω' → Kp σ₁ σ' → ExcAt σ' j t → (tr = true → t.isSome = true) → St G c (F.at g) ω' m' σ' h' → ω'.as[j]? = some a → E (.ref a) { s with heap := h', toks := tk' }
noncomputable def EvE (G : Gl) (c : Cx) (m : List (PySem.Str × AV)) (σ : List AO) (e : Expr) (σ₁ : List AO) : Prop :=
  ∀ F ω s, St G c F ω m σ s.heap → ∀ Q E, PoE G c F ω m σ₁ true s E → wpAny (model P0 G.w) F.A (eval e (ev c F)) Q E s
noncomputable def EvsE (G : Gl) (c : Cx) (m : List (PySem.Str × AV)) (σ : List AO) (es : List Expr) (σ₁ : List AO) : Prop :=
  ∀ F ω s pos, St G c F ω m σ s.heap → ∀ (Q : List Value → Shared → Prop) E, PoE G c F ω m σ₁ true s E → wpAny (model P0 G.w) F.A (spliced (backTo pos (starEach es (ev c F)))) Q E s
noncomputable def ClE (G : Gl) (k : Nat) (f : Value) (args : List AV) (σ : List AO) (σ₁ : List AO) : Prop :=
  ∀ c F ω m s args', k ≤ c.k → St G c F ω m σ s.heap → VRs G.K ω args args' → ∀ Q E, PoE G c F ω m σ₁ true s E → wpAny (model P0 G.w) F.A (call f args') Q E s
noncomputable def SxE (G : Gl) (c : Cx) (m : List (PySem.Str × AV)) (σ : List AO) (ss : List Stmt) (tr : Bool) (m' : List (PySem.Str × AV)) (σ₁ : List AO) : Prop :=
  ∀ F ω s, St G c F ω m σ s.heap → ∀ Q E, PoE G c F ω m' σ₁ tr s E → wpAny (model P0 G.w) F.A (execs ss (ev c F)) Q E s
noncomputable def S1E (G : Gl) (c : Cx) (m : List (PySem.Str × AV)) (σ : List AO) (st : Stmt) (tr : Bool) (m' : List (PySem.Str × AV)) (σ₁ : List AO) : Prop :=
  ∀ F ω s, St G c F ω m σ s.heap → ∀ Q E, PoE G c F ω m' σ₁ tr s E → wpAny (model P0 G.w) F.A (exec st (ev c F)) Q E s

section
variable {G : Gl} {c : Cx} {F : Fm} {ω ω' : Wd} {m m₁ m' : List (PySem.Str × AV)} {σ σ₁ σ₂ σ₃ σ' τ : List AO} {e l r tg : Expr} {pos pos' : Pos} {v a b it : AV} {st : Stmt} {ss : List Stmt} {fl : AF} {x : PySem.Str} {es : List Expr} {vs : List AV} {f : Value} {tr : Bool}
theorem PoE.on {s : Shared} {h₁ : Heap} {t₁ : Nat} {E : Value → Shared → Prop} (p : PoE G c F ω m τ tr s E) (hl : ω.le ω') : PoE G c F ω' m τ tr { s with heap := h₁, toks := t₁ } E :=
  fun g ω'' σ' j t a h' tk' h1 h2 h3 h4 h5 h6 h7 => p g ω'' σ' j t a h' tk' h1 (hl.trans h2) h3 h4 h5 h6 h7
theorem ev_frame : (ev c F).frame = some F.L := by unfold ev; cases c.blk <;> rfl

theorem evsE_head (h : EvE G c m σ e τ) (he : ∀ env, starEach (e :: es) env = (false, eval e env) :: starEach es env := by ked_read) : EvsE G c m σ (e :: es) τ := fun F ω s pos S Q E p =>
  wpAny_items_cons (h F ω s S _ E p) (he _)
theorem evE_if_t {t : Expr} {y : Bool} (h : Tt G c m σ t y σ₁) (hy : y = true) (h1 : EvE G c m σ₁ l τ) : EvE G c m σ (.IfExp t l r pos) τ := fun F ω s S Q E p => by
  subst hy
  exact wpAny_IfExp (h F ω s S _ E fun ω' h' tk' l1 S₁ => by rw [if_pos rfl]; exact h1 F ω' _ S₁ Q E (p.on l1))
theorem callWith_anyE {first : List AV} {first' : List Value} {k : Nat} (hp : plainArgs es) (hk : KpV G f) (he : Evs G c m σ es vs σ₁) (hc : ClE G k f (first ++ vs) σ₁ τ) (hkc : k ≤ c.k)
    {s : Shared} (S : St G c F ω m σ s.heap) (hf : VRs G.K ω first first') {Q : Value → Shared → Prop} {E : Value → Shared → Prop} (p : PoE G c F ω m τ true s E) :
    wpAny (model P0 G.w) F.A (callWith pos f first' (backTo pos (starEach es (ev c F))) []) Q E s :=
  callWith_of (P := G.K.In) (by rw [backTo_plain hp]; rfl) (hk _) (evalArgs_of hp (he F ω s pos S _ E fun ω₁ ws h' tk' l1 S₁ hvs =>
    ⟨S₁.KIn, hc c F ω₁ m _ _ hkc S₁ (VRs.append hvs (hf.mono l1)) Q E (p.on l1)⟩))
theorem callWith_argsE {first' : List Value} (hp : plainArgs es) (hk : KpV G f) (he : EvsE G c m σ es τ)
    {s : Shared} (S : St G c F ω m σ s.heap) {Q : Value → Shared → Prop} {E : Value → Shared → Prop} (p : PoE G c F ω m τ true s E) :
    wpAny (model P0 G.w) F.A (callWith pos f first' (backTo pos (starEach es (ev c F))) []) Q E s :=
  callWith_of (P := G.K.In) (by rw [backTo_plain hp]; rfl) (hk _) (evalArgs_of hp (he F ω s pos S _ E p))
theorem evE_call {k : Nat} (hf : Ev G c m σ (.Name x pos') (.glob f) σ) (he : Evs G c m σ es vs σ₁) (hk : KpV G f) (hc : ClE G k f vs σ₁ τ) (hkc : k ≤ c.k := by decide) (hp : plainArgs es := by ked_read) : EvE G c m σ (.Call (.Name x pos') es [] pos) τ := fun F ω s S Q E p =>
  wpAny_Call_NameR (hf F ω s S _ E fun ω₁ f' h' tk' l1 S₁ hv => by
    cases hv
    exact callWith_anyE (first := []) (first' := []) hp hk he hc hkc (s := { s with heap := h', toks := tk' }) S₁ .nil (p.on l1))
theorem evE_callm_aux {apos : Pos} (ho : Ev G c m σ e a σ₁) (hm : Gm G σ₁ a x f)
    (hp : plainArgs es) (hline : (apos.endLine == pos.line) = true) (hbase : ∀ env, attributeBase e x env (eval e env) = eval e env) (hlen : decide (es.length + 0 + 0 < 30) = true)
    (hw : ∀ F ω₁ s a', St G c F ω₁ m σ₁ s.heap → VR G.K ω₁ a a' → ∀ (Q : Value → Shared → Prop) (E : Value → Shared → Prop), PoE G c F ω₁ m τ true s E → wpAny (model P0 G.w) F.A (callWith pos f [a'] (backTo pos (starEach es (ev c F))) []) Q E s) :
    EvE G c m σ (.Call (.Attribute e x apos) es [] pos) τ := fun F ω s S Q E p => by
  rw [arm_eval_Call, hbase]
  refine wpAny_bind (ho F ω s S _ E fun ω₁ a' h' tk' l1 S₁ ha => ?_)
  refine wpAny_bind (wpAny_standAt ?_)
  have hform : methodCallForm (es.length + ([] : List Keyword).length) (backTo pos (starEach es (ev c F))) (backToKw pos (keywordEach [] (ev c F))) = true := by
    have h1 : (backTo pos (starEach es (ev c F))).all (!·.1) = true := by rw [hp]; simp [backTo]
    unfold methodCallForm
    rw [h1]
    show (true && (true && decide (es.length + 0 + 0 < 30))) = true
    rw [hlen]; rfl
  have hpos : methodCallPos true e (ev c F) apos pos = pure pos := by unfold methodCallPos; simp [hline]
  unfold methodCall calleeOf
  rw [hform]
  refine wpAny_bind (wpAny_holding (hm c F ω₁ m _ a' _ S₁ ha _ E fun tk => ?_))
  refine wpAny_bind (wpAny_of_eq hpos ?_)
  exact hw F ω₁ { s with heap := h', toks := tk } a' S₁ ha Q E (p.on l1)
theorem evE_callm {k : Nat} {apos : Pos} (ho : Ev G c m σ e a σ₁) (hm : Gm G σ₁ a x f) (he : Evs G c m σ₁ es vs σ₂) (hk : KpV G f) (hc : ClE G k f (a :: vs) σ₂ τ) (hkc : k ≤ c.k := by decide) (hp : plainArgs es := by ked_read)
    (hline : (apos.endLine == pos.line) = true := by rfl) (hbase : ∀ env, attributeBase e x env (eval e env) = eval e env := by ked_read) (hlen : decide (es.length + 0 + 0 < 30) = true := by rfl) : EvE G c m σ (.Call (.Attribute e x apos) es [] pos) τ :=
  evE_callm_aux ho hm hp hline hbase hlen fun F ω₁ s a' S₁ ha Q E p => callWith_anyE (first := [a]) (first' := [a']) hp hk he hc hkc S₁ (.cons ha .nil) p
theorem evE_callm_args {apos : Pos} (ho : Ev G c m σ e a σ₁) (hm : Gm G σ₁ a x f) (he : EvsE G c m σ₁ es τ) (hk : KpV G f) (hp : plainArgs es := by ked_read)
    (hline : (apos.endLine == pos.line) = true := by rfl) (hbase : ∀ env, attributeBase e x env (eval e env) = eval e env := by ked_read) (hlen : decide (es.length + 0 + 0 < 30) = true := by rfl) : EvE G c m σ (.Call (.Attribute e x apos) es [] pos) τ :=
  evE_callm_aux ho hm hp hline hbase hlen fun F ω₁ s a' S₁ ha Q E p => callWith_argsE hp hk he S₁ p

/-! statements -/
theorem sxE_head (h : S1E G c m σ st tr m' τ) : SxE G c m σ (st :: ss) tr m' τ := fun F ω s S Q E p => wpAny_execs_cons (h F ω s S _ E p)
theorem sxE_next (h : S1 G c m σ st .next m₁ σ₁) (h2 : SxE G c m₁ σ₁ ss tr m' τ) : SxE G c m σ (st :: ss) tr m' τ := fun F ω s S Q E p =>
  wpAny_execs_cons (h F ω s S _ E fun ω₁ fl' h' tk' hl S₁ hf => by cases hf; exact h2 F ω₁ _ S₁ Q E (p.on hl))
theorem s_exprE (h : EvE G c m σ e τ) (hb : c.blk = none := by rfl) (hs : ∀ env, swapsWith e none pos.line env = pure false := by ked_read) : S1E G c m σ (.Expr e pos) true m τ := fun F ω s S Q E p =>
  wpAny_Expr_any (h F ω s S _ E p) (by unfold ev; rw [hb]; exact interactive_fn S.hK) (hs _)
theorem s_retE (h : EvE G c m σ e τ) : S1E G c m σ (.Return (some e) pos) true m τ := fun F ω s S Q E p => wpAny_Return_some (h F ω s S _ E p)
theorem s_ifE_T {t : Expr} {b1 b2 : List Stmt} {y : Bool} (h : Tt G c m σ t y σ₁) (hy : y = true) (h1 : SxE G c m σ₁ b1 tr m' τ) : S1E G c m σ (.If t b1 b2 pos) tr m' τ := fun F ω s S Q E p => by
  subst hy
  exact wpAny_If (h F ω s S _ E fun ω' h' tk' l1 S₁ => by rw [if_pos rfl]; exact h1 F ω' _ S₁ Q E (p.on l1))
theorem s_ifE_F {t : Expr} {b1 b2 : List Stmt} {y : Bool} (h : Tt G c m σ t y σ₁) (hy : y = false) (h1 : SxE G c m σ₁ b2 tr m' τ) : S1E G c m σ (.If t b1 b2 pos) tr m' τ := fun F ω s S Q E p => by
  subst hy
  exact wpAny_If (h F ω s S _ E fun ω' h' tk' l1 S₁ => by rw [if_neg (by simp)]; exact h1 F ω' _ S₁ Q E (p.on l1))

/-- a turn is noted -/
theorem PoE.noted {s : Shared} {E : Value → Shared → Prop} {env : Env} (hf : env.frame = some F.L) (p : PoE G c F ω m τ true s E) : PoE G c F ω m τ tr s (notedBy (model P0 G.w) F.A env E) :=
  fun g ω' σ' j t a h' tk' h1 h2 h3 h4 h5 h6 h7 => h6.note (F := F.at g) (s := { s with heap := h', toks := tk' }) h4 h7 hf fun g2 ω2 σ2 i h2' n2 l2 k2 x2 S2 =>
    p g2 ω2 σ2 j (some i) a h2' tk' (h1.trans n2) (h2.trans l2) (h3.trans k2) x2 (fun _ => rfl) S2 (l2.at h7)
theorem PoE.back {s : Shared} {E : Value → Shared → Prop} {env : Env} (p : PoE G c F ω m τ true s E) : PoE G c F ω m τ true s (cameBackBy (model P0 G.w) F.A env E) :=
  fun g ω' σ' j t a h' tk' h1 h2 h3 h4 h5 h6 h7 => by
    obtain ⟨i, rfl⟩ := Option.isSome_iff_exists.mp (h5 rfl)
    obtain ⟨d, hσ⟩ := h4.at_
    obtain ⟨o, ho, hr⟩ := h6.atL hσ h7
    replace hr := hr.m
    obtain ⟨_, r1, r2, r3, r4, r5, r6, r7⟩ := hr
    obtain ⟨T, hT, e1⟩ := r4 i rfl
    refine wpAny_bind (wpAny_field ho r2 e1 ?_)
    rw [if_neg (show ¬ ((Value.ref T == Value.none) = true) from by simp)]
    first
      | exact wpAny_bind (wpAny_pure (h6.flight (F := F.at g) (s := { s with heap := h', toks := tk' }) h4 h7 fun h'' S'' => p g ω' σ' j _ a h'' tk' h1 h2 h3 h4 h5 S'' h7))
      | exact h6.flight (F := F.at g) (s := { s with heap := h', toks := tk' }) h4 h7 fun h'' S'' => p g ω' σ' j _ a h'' tk' h1 h2 h3 h4 h5 S'' h7
/-! for -/
inductive FoE (G : Gl) (c : Cx) (tg : Expr) (it : AV) (body : List Stmt) : List (PySem.Str × AV) → List AO → List (PySem.Str × AV) → List AO → Prop where
  | turn {m m₁ m₂ m' : List (PySem.Str × AV)} {σ σ₁ σ₂ τ : List AO} : Dr G c m σ tg it m₁ σ₁ → Sx G c m₁ σ₁ body .next m₂ σ₂ → FoE G c tg it body m₂ σ₂ m' τ → FoE G c tg it body m σ m' τ
  | stop {m m₁ m' : List (PySem.Str × AV)} {σ σ₁ τ : List AO} : Dr G c m σ tg it m₁ σ₁ → SxE G c m₁ σ₁ body true m' τ → FoE G c tg it body m σ m' τ
theorem foE_code {body : List Stmt} (H : FoE G c tg it body m σ m' τ) : ∀ F ω s it', St G c F ω m σ s.heap → VR G.K ω it it' → ∀ (R : Result → Shared → Prop),
    PoE G c F ω m' τ true s (fun e s' => R (.error e) s') → codeAny (model P0 G.w) F.A (.forLoop tg it' body [] (ev c F)) R s := by
  induction H with
  | turn hd hb _ ih =>
    intro F ω s it' S hv R p
    refine for_step (hd.use S hv _ _ fun ω₁ h₁ t₁ l1 S₁ => ?_)
    refine hb F ω₁ _ S₁ _ _ fun ω₂ fl' h₂ t₂ l2 S₂ hf => ?_
    cases hf
    exact ih F ω₂ _ it' S₂ (hv.mono (l1.trans l2)) R (p.on (l1.trans l2))
  | stop hd hb =>
    intro F ω s it' S hv R p
    refine for_step (hd.use S hv _ _ fun ω₁ h₁ t₁ l1 S₁ => ?_)
    exact hb F ω₁ _ S₁ _ _ ((p.on l1).noted ev_frame)
theorem s_forE {iter : Expr} {body : List Stmt} (h1 : Ev G c m σ iter a σ₁) (h2 : Pi G σ₁ a it σ₂) (h3 : FoE G c tg it body m σ₂ m' τ) (hs : ∀ env x, foldedSetIterable iter env x = pure x := by ked_read) :
    S1E G c m σ (.For tg iter body [] pos) true m' τ := fun F ω s S Q E p =>
  wpAny_For (h1 F ω s S _ E fun ω₁ a' h₁ t₁ l1 S₁ ha => h2 c F ω₁ m _ a' S₁ ha _ E fun ω₂ it' h₂ t₂ l2 S₂ hi =>
    foE_code h3 F ω₂ _ it' S₂ hi _ ((p.on (l1.trans l2)).back)) (hs _)

/-! a def that raises -/
theorem code_inE {k : Nat} {q : PySem.Str} {sf : Stmt} {dV pm cdv : Value} {xs : List PySem.Str}
    {fa : Addr} (ho : G.K.lookup fa = some (fo sf q dV pm cdv)) (hcd : codeIn G.K cdv q = true)
    (hbind : ∀ s ws, G.K.In s.heap → ws.length = vs.length → BindsTo s (fdOf sf q dV pm cdv) ⟨ws, []⟩ (xs.zip ws))
    (hloc : (xs.all fun x => (dScope sf).names.lookup x == some .local) = true) (hnd : xs.Nodup)
    (hbody : SxE G ⟨k, q, dScope sf, fa, cdv, [], none⟩ (xs.zip vs) σ (dBody sf) tr m' τ)
    (hcell : ((dScope sf).names.all fun x => x.2 != .cell) = true) (hco : (dScope sf).isCoroutine = false) (hgen : (dScope sf).isGenerator = false) (hk : (dScope sf).kind = .function)
    {s : Shared} {args' : List Value} {A : Around} (hle : k < c.k) (S : St G c F ω m σ s.heap) (hAf : A.frames = F.A.frames) (hAh : A.handled = F.A.handled) (hAd : A.depth + 4 * k + 1 ≤ 900) (hAu : A.units + 8 * k + 3 ≤ 9000) (hv : VRs G.K ω vs args') {R : Result → Shared → Prop}
    (p : PoE G c F ω m τ true s (fun e s' => R (.error e) s')) :
    codeAny (model P0 G.w) A (.call (.ref fa) ⟨args', []⟩) R s := by
  obtain ⟨M, Fh, hM⟩ := S.lo
  obtain ⟨os, N, hl, rr⟩ := S.hp
  have hD := S.hD
  have hU := S.hU
  refine code_def (R := R) S.B Fh S.X N S.T (hAf.trans S.hA) rfl S.hK ho hcd (by show A.depth < 1000; omega) (hbind s args' (S.X.keeps Fh.keep) hv.length) (fun y hy => ?_) (fun g L' h₁ FG F' N' B' X' T' => ?_) hco hgen hk (fun y hy => by simpa using List.all_eq_true.mp hcell y hy)
  · have := List.all_eq_true.mp hloc y.1 (zip_mem_fst hy)
    simpa using this
  · refine hbody ⟨A, A.deeper (envOf q (dScope sf) L' fa cdv), F.base, envX c.cn c.cs F.L c.a c.ccd F.cl :: F.outer, g, L', [], 0, [], "", none⟩ ω _ (S.calleeP (k := k) hnd hk hAf hAh hAd hAu hv hl rr F' N' B') _ _ ?_
    intro g1 ω' σ' j t a h' tk' n1 l1 k1 x1 _ S' hj
    refine S'.leavingE (s := { s with heap := h', toks := tk' }) x1 hj rfl fun g2 ω2 σ2 i h2 n2 l2 k2 x2 S2 => ?_
    obtain ⟨M', F'', _⟩ := S2.lo
    obtain ⟨os', N'', hl', rr'⟩ := S2.hp
    obtain ⟨g0, n0, S0⟩ := S.backN (l1.trans l2) hM FG (n1.trans n2) F'' N'' hl' rr' S2.nd S2.gt
    exact p g0 ω2 σ2 j (some i) a h2 tk' n0 (l1.trans l2) (k1.trans k2) x2 (fun _ => rfl) S0 (l2.at hj)
end
end SM20
section SM21
section
variable {G : Gl} {c : Cx} {F : Fm} {ω ω' : Wd} {m m₁ m' ml : List (PySem.Str × AV)} {σ σ₁ σ₂ σ₃ σ₄ σ' τ τ' : List AO} {e l r tg : Expr} {pos pos' : Pos} {v a b it : AV} {st : Stmt} {ss : List Stmt} {fl : AF} {x : PySem.Str} {es : List Expr} {vs : List AV} {f : Value} {tr : Bool} {h : Heap}
theorem code_inCE {k n : Nat} {q : PySem.Str} {sf : Stmt} {dV pm cdv : Value} {xs : List PySem.Str} {cs : List (PySem.Str × Nat)} {ca : List AO}
    {fa : Addr} (ho : G.K.lookup fa = some (fo sf q dV pm cdv)) (hcd : codeIn G.K cdv q = true)
    (hbind : ∀ s ws, G.K.In s.heap → ws.length = vs.length → BindsTo s (fdOf sf q dV pm cdv) ⟨ws, []⟩ (xs.zip ws))
    (hloc : (xs.all fun x => (dScope sf).names.lookup x == some .local || (dScope sf).names.lookup x == some .cell) = true) (hnd : xs.Nodup) (hlen : xs.length = vs.length)
    (hml : ml = (xs.zip vs).filter fun p => (dScope sf).names.lookup p.1 == some .local) (hn : σ.length = n)
    (hcs : cs = cellsAt n ((cellsFrom 0 (dScope sf).names []).map (·.1))) (hca : ca = ((cellsFrom 0 (dScope sf).names []).map (·.1)).map fun x => .cell (lk x (xs.zip vs)))
    (hkc : (((cellsFrom 0 (dScope sf).names []).map (·.1)).all fun x => (dScope sf).names.lookup x == some .cell) = true) (hndc : ((cellsFrom 0 (dScope sf).names []).map (·.1)).Nodup)
    (hbody : SxE G ⟨k, q, dScope sf, fa, cdv, cs, none⟩ ml (σ ++ ca) (dBody sf) tr m' τ)
    (hco : (dScope sf).isCoroutine = false) (hgen : (dScope sf).isGenerator = false) (hk : (dScope sf).kind = .function)
    {s : Shared} {args' : List Value} {A : Around} (hle : k < c.k) (S : St G c F ω m σ s.heap) (hAf : A.frames = F.A.frames) (hAh : A.handled = F.A.handled) (hAd : A.depth + 4 * k + 1 ≤ 900) (hAu : A.units + 8 * k + 3 ≤ 9000) (hv : VRs G.K ω vs args') {R : Result → Shared → Prop}
    (p : PoE G c F ω m τ true s (fun e s' => R (.error e) s')) :
    codeAny (model P0 G.w) A (.call (.ref fa) ⟨args', []⟩) R s := by
  obtain ⟨M, Fh, hM⟩ := S.lo
  have hsl := S.len
  obtain ⟨os, N, hl, rr⟩ := S.hp
  refine code_defC (R := R) S.B Fh S.X N S.T (hAf.trans S.hA) rfl S.hK ho hcd (by show A.depth < 1000; omega) (hbind s args' (S.X.keeps Fh.keep) hv.length) ?_ hndc (fun g L' h₁ tk cells FG F' N' Y B' X' T' hlt => ?_) hco hgen hk
  · refine List.all_eq_true.mpr fun y hy => ?_
    exact List.all_eq_true.mp hloc y.1 (zip_mem_fst hy)
  · obtain ⟨lw, SC⟩ := S.calleeC (k := k) hnd hml hn hcs hca hkc hk hAf hAh hAd hAu hv hl rr F' N' Y B' X' hlt
    refine hbody ⟨A, A.deeper (envOfC q (dScope sf) L' fa cdv), F.base, envX c.cn c.cs F.L c.a c.ccd F.cl :: F.outer, g, L', cellsFrom (L' + 1) (dScope sf).names [], 0, [], "", none⟩ ⟨ω.as ++ cells.map (·.1), ω.T⟩ _ SC _ _ ?_
    intro g1 ω' σ' j t a h' tk' n1 l1 k1 x1 _ S' hj
    refine S'.leavingE (s := { s with heap := h', toks := tk' }) x1 hj rfl fun g2 ω2 σ2 i h2 n2 l2 k2 x2 S2 => ?_
    obtain ⟨M', F'', _⟩ := S2.lo
    obtain ⟨os', N'', hl', rr'⟩ := S2.hp
    obtain ⟨g0, n0, S0⟩ := S.backN ((lw.trans l1).trans l2) hM FG (n1.trans n2) F'' N'' hl' rr' S2.nd S2.gt
    exact p g0 ω2 σ2 j (some i) a h2 tk' n0 ((lw.trans l1).trans l2) (k1.trans k2) x2 (fun _ => rfl) S0 (l2.at hj)
theorem cl_defCE {k n : Nat} {q : PySem.Str} {sf : Stmt} {dV pm cdv : Value} {xs : List PySem.Str} {cs : List (PySem.Str × Nat)} {ca : List AO}
    {fa : Addr} (ho : G.K.lookup fa = some (fo sf q dV pm cdv)) (hcd : codeIn G.K cdv q = true)
    (hbind : ∀ s ws, G.K.In s.heap → ws.length = vs.length → BindsTo s (fdOf sf q dV pm cdv) ⟨ws, []⟩ (xs.zip ws))
    (hloc : (xs.all fun x => (dScope sf).names.lookup x == some .local || (dScope sf).names.lookup x == some .cell) = true) (hnd : xs.Nodup) (hlen : xs.length = vs.length)
    (hml : ml = (xs.zip vs).filter fun p => (dScope sf).names.lookup p.1 == some .local) (hn : σ.length = n)
    (hcs : cs = cellsAt n ((cellsFrom 0 (dScope sf).names []).map (·.1))) (hca : ca = ((cellsFrom 0 (dScope sf).names []).map (·.1)).map fun x => .cell (lk x (xs.zip vs)))
    (hkc : (((cellsFrom 0 (dScope sf).names []).map (·.1)).all fun x => (dScope sf).names.lookup x == some .cell) = true) (hndc : ((cellsFrom 0 (dScope sf).names []).map (·.1)).Nodup)
    (hbody : SxE G ⟨k, q, dScope sf, fa, cdv, cs, none⟩ ml (σ ++ ca) (dBody sf) tr m' τ)
    (hco : (dScope sf).isCoroutine = false) (hgen : (dScope sf).isGenerator = false) (hk : (dScope sf).kind = .function) :
    ClE G (k + 1) (.ref fa) vs σ τ := fun c F ω m s args' hle S hv Q E p =>
  wpAny_call (code_inCE ho hcd hbind hloc hnd hlen hml hn hcs hca hkc hndc hbody hco hgen hk (Nat.lt_of_succ_le hle) S rfl rfl (by have := S.hD; omega) (by have := S.hU; omega) hv p)

theorem St.passOn {s : Shared} {α : Type} {what : String} {env : Env} (S : St G c F ω m σ s.heap) {j i : Nat} {a : Addr} (X : ExcAt σ j (some i)) (hj : ω.as[j]? = some a) {Q : α → Shared → Prop} {E : Value → Shared → Prop}
    (p : ∀ h', St G c F ω m σ h' → E (.ref a) { s with heap := h' }) : wpAny (model P0 G.w) F.A (passOn what (.ref a) env : Sem α) Q E s := by
  obtain ⟨d, hσ⟩ := X.at_
  obtain ⟨o, ho, hr⟩ := S.atL hσ hj
  unfold PySem.passOn
  replace hr := hr.m
  obtain ⟨_, r1, r2, r3, r4, r5, r6, r7⟩ := hr
  obtain ⟨T, hT, e1⟩ := r4 i rfl
  refine wpAny_bind (wpAny_field ho r2 e1 ?_)
  rw [if_neg (show ¬ ((Value.ref T == Value.none) = true) from by simp)]
  first
    | exact wpAny_bind (wpAny_pure (wpAny_bind (S.flight X hj fun h' S' => wpAny_throw (p h' S'))))
    | exact wpAny_bind (S.flight X hj fun h' S' => wpAny_throw (p h' S'))
theorem St.outN {ω₀ : Wd} {m₀ : List (PySem.Str × AV)} {σ₀ : List AO} {g : Heap} {scope : Scope} {l : Nat} {cs : List (PySem.Str × Nat)} {C : Addr} {cl : List (PySem.Str × Addr)} {h₀ : Heap} (S₀ : St G c F ω₀ m₀ σ₀ h₀) (hle : ω₀.le ω)
    (S : St G (c.into scope l cs) ({ F with C := C, bcl := cl }.at g) ω m σ h) : St G c (F.at g) ω m σ h :=
  { hA := S.hA, hH := S.hH, hD := S.hD, hU := S.hU, hK := S.hK, B := S.B, XB := S.XB, TB := S.TB, PB := S.PB, cel := S.cel, lo := S.lo, hp := S.hp, nd := S.nd, gt := S.gt, t0 := S.t0
    blk := fun b hb => ⟨(S₀.blk b hb).1, hle.at (S₀.blk b hb).2.1, (S₀.blk b hb).2.2.mono hle⟩ }
inductive LpE (G : Gl) (c : Cx) (m : List (PySem.Str × AV)) (elt tg : Expr) (ifs : List Expr) (it : AV) (na : Nat) : List AO → List AO → Prop where
  | skip {σ σ₁ σ₂ τ : List AO} : Dr G c m σ tg it m σ₁ → Ts G c m σ₁ ifs false σ₂ → LpE G c m elt tg ifs it na σ₂ τ → LpE G c m elt tg ifs it na σ τ
  | keep {σ σ₁ σ₂ σ₃ τ : List AO} {u : AV} {vs : List AV} : Dr G c m σ tg it m σ₁ → Ts G c m σ₁ ifs true σ₂ → Ev G c m σ₂ elt u σ₃ → σ₃[na]? = some (.list vs) → vs.length ≤ sizeLine →
      LpE G c m elt tg ifs it na (σ₃.set na (.list (vs ++ [u]))) τ → LpE G c m elt tg ifs it na σ τ
  | stop {σ σ₁ σ₂ τ : List AO} : Dr G c m σ tg it m σ₁ → Ts G c m σ₁ ifs true σ₂ → EvE G c m σ₂ elt τ → LpE G c m elt tg ifs it na σ τ
theorem lpE_code {elt iter : Expr} {ifs : List Expr} {scope : Scope} {na : Nat} (H : LpE G c m elt tg ifs it na σ τ) : ∀ F ω s it' acc, St G c F ω m σ s.heap → VR G.K ω it it' → ω.as[na]? = some acc → ∀ (R : Result → Shared → Prop),
    PoE G c F ω m τ true s (fun e s' => R (.error e) s') → codeAny (model P0 G.w) F.A (.compLoop (.ListComp elt [⟨tg, iter, ifs, 0⟩] scope pos) 0 it' (.ref acc) (ev c F)) R s := by
  induction H with
  | skip hd ht _ ih =>
    intro F ω s it' acc S hv ha R p
    refine comp_step (hd.use S hv _ _ fun ω₁ h₁ t₁ l1 S₁ => ht F ω₁ _ S₁ _ _ fun ω₂ h₂ t₂ l2 S₂ => ?_)
    · rw [if_neg (by simp)]
      exact ih F ω₂ _ it' acc S₂ (hv.mono (l1.trans l2)) ((l1.trans l2).at ha) R (p.on (l1.trans l2))
  | keep hd ht he hl hz _ ih =>
    intro F ω s it' acc S hv ha R p
    refine comp_step (hd.use S hv _ _ fun ω₁ h₁ t₁ l1 S₁ => ht F ω₁ _ S₁ _ _ fun ω₂ h₂ t₂ l2 S₂ => ?_)
    · rw [if_pos rfl]
      refine he F ω₂ _ S₂ _ _ fun ω₃ u' h₃ t₃ l3 S₃ hu => ?_
      have l13 := (l1.trans l2).trans l3
      refine cl_append hl hz c F ω₃ m _ [.ref acc, u'] (Nat.zero_le _) S₃ (.cons (.loc (l13.at ha)) (.cons hu .nil)) _ _ fun ω₄ _ h₄ t₄ l4 S₄ _ => ?_
      exact ih F ω₄ _ it' acc S₄ (hv.mono (l13.trans l4)) ((l13.trans l4).at ha) R (p.on (l13.trans l4))
  | stop hd ht he =>
    intro F ω s it' acc S hv ha R p
    refine comp_step (hd.use S hv _ _ fun ω₁ h₁ t₁ l1 S₁ => ht F ω₁ _ S₁ _ _ fun ω₂ h₂ t₂ l2 S₂ => ?_)
    · rw [if_pos rfl]
      exact he F ω₂ _ S₂ _ _ ((p.on (l1.trans l2)).noted ev_frame)
theorem comp_runE {elt iter : Expr} {ifs : List Expr} {scope : Scope} {cs : List (PySem.Str × Nat)} {n : Nat} {use : Option (Value → Sem Unit)}
    (hcell : (scope.names.all fun x => x.2 != .cell) = true) (hkind : scope.kind = .function) (hnames : (scope.names.all fun x => x.2 != .local || scope.names.lookup x.1 == some .local) = true)
    (hcl : clos (cellsOf c) scope.names [] = some cs) (h1 : Ev G c m σ iter a σ₁) (h2 : Pi G σ₁ a it σ₂) (hn : σ₂.length = n)
    (hself : Pi G (σ₂ ++ [.list []] ++ [.ns []]) it it (σ₂ ++ [.list []] ++ [.ns []]))
    (h3 : LpE G (c.into scope (n + 1) cs) m elt tg ifs it n (σ₂ ++ [.list []] ++ [.ns []]) τ) {mb : List (PySem.Str × AV)} (hns : τ[n + 1]? = some (.ns mb))
    (hs : ∀ env x, foldedSetIterable iter env x = pure x)
    {s : Shared} (S : St G c F ω m σ s.heap) {Q E : Value → Shared → Prop} (p : PoE G c F ω m (τ.set (n + 1) .dead) true s E) :
    wpAny (model P0 G.w) F.A (comprehension (.ListComp elt [⟨tg, iter, ifs, 0⟩] scope pos) scope (ev c F) (firstIterPos [⟨tg, iter, ifs, 0⟩] pos) (newList []) (firstAsync [⟨tg, iter, ifs, 0⟩]) (firstIter [⟨tg, iter, ifs, 0⟩] (ev c F)) use) Q E s := by
  subst hn
  obtain ⟨cl, hclo, hcel⟩ := closure_is S.cells hcl
  refine wpAny_comprehension_free (use := use) rfl (hs _) hclo hkind (fun x hx hl => ?_) (h1 F ω s S _ E fun ω₁ a' h₁ t₁ l1 S₁ ha => h2 c F ω₁ m _ a' S₁ ha _ E fun ω₂ it' h₂ t₂ l2 S₂ hi => ?_)
  · have := List.all_eq_true.mp hnames x hx
    rw [hl] at this
    simpa using this
  · have l12 := l1.trans l2
    refine wpAny_newObj_type (wpAny_newFunctionEnv (fun y hy => by simpa using List.all_eq_true.mp hcell y hy) (by intro y hy; simp at hy) (fun h₃ hns₃ hsb₃ => ?_) hkind)
    dsimp only at hns₃ hsb₃ ⊢
    obtain ⟨S₃, e₃⟩ := S₂.pushed (o := { cls := .type "list", dict := none, data := .seq ([] : List Value).toArray }) (y := .list []) rfl (.list (vs := []) (ws := []) .nil)
    have l3 := Wd.le_push ω₂ h₂.objs.size
    generalize hH : h₂.push { cls := .type "list", dict := none, data := .seq ([] : List Value).toArray } = H at hns₃ hsb₃ S₃ ⊢
    obtain ⟨oC, es, ep, hC, hd, hk, hf⟩ := hns₃
    have S₄ := S₃.new (h' := h₃) (a := H.objs.size) (x := .ns []) (o := oC) (fun b o q => hsb₃.extBut b o (Nat.ne_of_lt (Heap.lt_size q)) (Heap.get?_push_of_some _ q)) (Nat.le_refl _) hC (.ns (M := fun x => ([] : List (PySem.Str × Value)).reverse.lookup x) hd hk (funext hf) fun x v q => by cases q)
    have l4 := Wd.le_push (ω₂.push h₂.objs.size) H.objs.size
    have l34 := l3.trans l4
    have eC : ((ω₂.push h₂.objs.size).push H.objs.size).as[σ₂.length + 1]? = some H.objs.size := by
      show ((ω₂.as ++ [h₂.objs.size]) ++ [H.objs.size])[σ₂.length + 1]? = _
      rw [← S₂.len]; simp
    have eA : ((ω₂.push h₂.objs.size).push H.objs.size).as[σ₂.length]? = some h₂.objs.size := l4.at e₃
    have S₅ := S₄.into (scope := scope) (cl := cl) hkind eC (hcel.mono (l12.trans l34))
    have hi' := hi.mono l34
    have key : ∀ (it₂ : Value) ω₅ h₅ t₅, ((ω₂.push h₂.objs.size).push H.objs.size).le ω₅ → St G (c.into scope (σ₂.length + 1) cs) { F with C := H.objs.size, bcl := cl } ω₅ m (σ₂ ++ [.list []] ++ [.ns []]) h₅ → VR G.K ω₅ it it₂ →
        codeAny (model P0 G.w) F.A (.compLoop (.ListComp elt [⟨tg, iter, ifs, 0⟩] scope pos) 0 it₂ (.ref h₂.objs.size) (ev (c.into scope (σ₂.length + 1) cs) { F with C := H.objs.size, bcl := cl }))
          (compPost (model P0 G.w) F.A E use Q (.ref h₂.objs.size) H.objs.size) { s with heap := h₅, toks := t₅ } := fun it₂ ω₅ h₅ t₅ l5 S₆ hv => by
      refine lpE_code h3 { F with C := H.objs.size, bcl := cl } ω₅ _ it₂ h₂.objs.size S₆ hv (l5.at eA) _ ?_
      intro g ω' σ' j t a h' tk' n1 ll k1 x1 tt S' hj
      have lall := ((l12.trans l34).trans l5).trans ll
      have S'' := S.outN lall S'
      have hnsσ := k1 _ _ hns (fun _ _ q => by cases q)
      have eC' := (l5.trans ll).at eC
      obtain ⟨o, ho, hr⟩ := S''.atL hnsσ eC'
      obtain ⟨i, rfl⟩ := Option.isSome_iff_exists.mp (tt rfl)
      replace hr := hr.m
      obtain ⟨_, _, _, g1, g2, g3, g4⟩ := hr
      have fin : ∃ m, h'.Ns H.objs.size m ∧ ∀ h'', Heap.SameBut H.objs.size h' h'' → ∀ cenv : Env, cenv.locals = H.objs.size → wpAny (model P0 G.w) F.A (PySem.passOn "comprehension.variables-let-go" (.ref a) cenv : Sem Value) (fun _ _ => False) E { s with heap := h'', toks := tk' } := by
        refine ⟨_, ⟨o, _, _, ho, g1, g2, fun n => by rw [g3]⟩, fun h'' hs'' cenv _ => ?_⟩
        have S3 := S''.kill hnsσ eC' (fun b o' hb q => (hs''.2 b hb).trans q)
        have hjn : σ₂.length + 1 ≠ j := fun q => by
          obtain ⟨d, hd⟩ := x1.at_
          rw [← q, hnsσ] at hd; cases hd
        have hin : σ₂.length + 1 ≠ i := fun q => by
          have := x1.tb i rfl
          rw [← q, hnsσ] at this; cases this
        have x3 : ExcAt (σ'.set (σ₂.length + 1) .dead) j (some i) := ⟨let ⟨d, hd⟩ := x1.at_; ⟨d, by rw [List.getElem?_set_ne hjn]; exact hd⟩, fun i' q => by cases q; rw [List.getElem?_set_ne hin]; exact x1.tb i rfl⟩
        refine S3.passOn (F := F.at g) (s := { s with heap := h'', toks := tk' }) x3 hj fun h3 S4 => ?_
        refine p g ω' _ j (some i) a h3 tk' n1 lall (fun k o' e n => ?_) x3 (fun _ => rfl) S4 hj
        by_cases hk : σ₂.length + 1 = k
        · subst hk
          rw [at_set_eq hns] at e
          rw [at_set_eq hnsσ]; exact e
        · rw [List.getElem?_set_ne hk] at e ⊢
          exact k1 k o' e n
      cases use <;> exact fin
    show codeAny _ _ (.compStart _ 0 it' _ (compEnvC scope cl H.objs.size (ev c F))) (compPost (model P0 G.w) F.A E use Q (.ref h₂.objs.size) H.objs.size) _
    rw [← ev_into (l := σ₂.length + 1) (cs := cs)]
    refine codeAny_compStart_list (key it' _ _ _ (.refl _) S₅ hi') ?_
    exact hself _ { F with C := H.objs.size, bcl := cl } _ m _ it' S₅ hi' _ _ fun ω₅ it₂ h₅ t₅ l5 S₆ hv => key it₂ ω₅ h₅ t₅ l5 S₆ hv
theorem s_assign_compE {elt iter : Expr} {ifs : List Expr} {scope : Scope} {cs : List (PySem.Str × Nat)} {n : Nat} {y : PySem.Str} {spos : Pos}
    (hcell : (scope.names.all fun x => x.2 != .cell) = true) (hkind : scope.kind = .function) (hnames : (scope.names.all fun x => x.2 != .local || scope.names.lookup x.1 == some .local) = true)
    (hcl : clos (cellsOf c) scope.names [] = some cs) (h1 : Ev G c m σ iter a σ₁) (h2 : Pi G σ₁ a it σ₂) (hn : σ₂.length = n)
    (hself : Pi G (σ₂ ++ [.list []] ++ [.ns []]) it it (σ₂ ++ [.list []] ++ [.ns []]))
    (h3 : LpE G (c.into scope (n + 1) cs) m elt tg ifs it n (σ₂ ++ [.list []] ++ [.ns []]) τ) {mb : List (PySem.Str × AV)} (hns : τ[n + 1]? = some (.ns mb))
    (hsw : ∀ F, swapsWith (.ListComp elt [⟨tg, iter, ifs, 0⟩] scope pos) (some (.Name y pos')) spos.line (ev c F) = pure true)
    (hs : ∀ env x, foldedSetIterable iter env x = pure x := by ked_read) :
    S1E G c m σ (.Assign [.Name y pos'] (.ListComp elt [⟨tg, iter, ifs, 0⟩] scope pos) spos) true m (τ.set (n + 1) .dead) := fun F ω s S Q E p => by
  rw [exec_Assign_Name_used _ _ _ _ (hsw F)]
  refine wpAny_bind (wpAny_standAt (wpAny_bind ?_))
  exact wpAny_bind (comp_runE (use := some (assign (.Name y pos') (ev c F))) hcell hkind hnames hcl h1 h2 hn hself h3 hns hs S p)
end
end SM21
section SM22
section
variable {G : Gl} {c : Cx} {F : Fm} {ω ω' : Wd} {m m₁ m' ml : List (PySem.Str × AV)} {σ σ₁ σ₂ σ₃ σ₄ σ' τ τ' : List AO} {e l r tg : Expr} {pos pos' : Pos} {v a b it : AV} {st : Stmt} {ss : List Stmt} {fl : AF} {x : PySem.Str} {es : List Expr} {vs : List AV} {f : Value} {tr : Bool} {h : Heap}

theorem excMatches_52 {M : Model} {A : Around} {s : Shared} {a : Addr} {o : Obj} {Q : Bool → Shared → Prop} {E : Value → Shared → Prop} (X : G.K.In s.heap) (he : s.heap.get? a = some o) (hc : o.cls = .ref 52) (h : Q true s) :
    wpAny M A (excMatches (.ref a) (.ref 52)) Q E s := by
  unfold excMatches
  refine wpAny_bind ((looks_instIn (K := G.K) X (r := false) (by kernel_rfl!)).here ?_)
  simp only [Bool.false_eq_true, if_false, pure_bind, List.forIn_cons, List.forIn_nil]
  unfold isExcClass
  have i1 : Looks M s.heap (isType (.ref 52)) true := (Looks.ld (X 52 _ rfl)).andThen .now
  have i2 : Looks M s.heap (isSubtype (.ref 52) (.type "BaseException")) true := looks_subIn (K := G.K) X (by kernel_rfl!)
  have i3 : Looks M s.heap (typeOf (.ref a)) (.ref 52) := hc ▸ ((Looks.ld he).andThen .now)
  have i4 : Looks M s.heap (isSubtype (.ref 52) (.ref 52)) true := looks_subIn (K := G.K) X (by kernel_rfl!)
  refine wpAny_bind (wpAny_bind (wpAny_bind (wpAny_bind (i1.here ?_))))
  rw [if_pos rfl]
  refine i2.here ?_
  simp only [Bool.not_true, Bool.false_eq_true, if_false]
  refine wpAny_pure (wpAny_pure ?_)
  refine wpAny_bind (i3.here ?_)
  refine wpAny_bind (wpAny_bind (wpAny_bind (i4.here ?_)))
  rw [if_pos rfl]
  exact wpAny_pure (wpAny_pure (wpAny_pure h))

/-! behind a raise that was caught: the outer namespaces' slots may differ -/
noncomputable def PoX (G : Gl) (c : Cx) (F : Fm) (ω : Wd) (m : List (PySem.Str × AV)) (τ : List AO) (v : AV) (s : Shared) (Q : Value → Shared → Prop) : Prop :=
  ∀ g ω' σ' v' h' tk', Nr F.outer F.h₀ g → ω.le ω' → Kp τ σ' → St G c (F.at g) ω' m σ' h' → VR G.K ω' v v' → Q v' { s with heap := h', toks := tk' }
noncomputable def EvX (G : Gl) (c : Cx) (m : List (PySem.Str × AV)) (σ : List AO) (e : Expr) (v : AV) (τ : List AO) : Prop :=
  ∀ F ω s, St G c F ω m σ s.heap → ∀ Q E, PoX G c F ω m τ v s Q → wpAny (model P0 G.w) F.A (eval e (ev c F)) Q E s
noncomputable def ClX (G : Gl) (k : Nat) (f : Value) (args : List AV) (σ : List AO) (v : AV) (τ : List AO) : Prop :=
  ∀ c F ω m s args', k ≤ c.k → St G c F ω m σ s.heap → VRs G.K ω args args' → ∀ Q E, PoX G c F ω m τ v s Q → wpAny (model P0 G.w) F.A (call f args') Q E s
noncomputable def PfX (G : Gl) (c : Cx) (F : Fm) (ω : Wd) (τ : List AO) (fl : AF) (s : Shared) (Q : Flow → Shared → Prop) : Prop :=
  ∀ g ω' m' σ' fl' h' tk', Nr F.outer F.h₀ g → ω.le ω' → Kp τ σ' → St G c (F.at g) ω' m' σ' h' → FlR G.K ω' fl fl' → Q fl' { s with heap := h', toks := tk' }
noncomputable def SxX (G : Gl) (c : Cx) (m : List (PySem.Str × AV)) (σ : List AO) (ss : List Stmt) (fl : AF) (τ : List AO) : Prop :=
  ∀ F ω s, St G c F ω m σ s.heap → ∀ Q E, PfX G c F ω τ fl s Q → wpAny (model P0 G.w) F.A (execs ss (ev c F)) Q E s
/-- as SxX of one statement, the names behind it told -/
noncomputable def S1X (G : Gl) (c : Cx) (m : List (PySem.Str × AV)) (σ : List AO) (st : Stmt) (fl : AF) (m' : List (PySem.Str × AV)) (τ : List AO) : Prop :=
  ∀ F ω s, St G c F ω m σ s.heap → ∀ (Q : Flow → Shared → Prop) E, (∀ g ω' σ' fl' h' tk', Nr F.outer F.h₀ g → ω.le ω' → Kp τ σ' → St G c (F.at g) ω' m' σ' h' → FlR G.K ω' fl fl' → Q fl' { s with heap := h', toks := tk' }) →
    wpAny (model P0 G.w) F.A (exec st (ev c F)) Q E s
theorem s_try_catch {np cp rp hp : Pos} {k : Nat} {body : List Stmt} (hb : c.blk = none) (hx : c.cs.names.lookup ("LowerFault" : PySem.Str) = some .globalImplicit) (h : SxE G c m σ body true m₁ τ) :
    S1X G c m σ (.Try body [.ExceptHandler (some (.Name "LowerFault" np)) none [.Return (some (.Constant .none k cp)) rp] hp] [] [] pos) (.ret .none) m₁ τ := fun F ω s S Q E p => by
  refine wpAny_Try_except (h F ω s S _ _ fun g ω' σ' j t a h' tk' n1 l1 k1 x1 tt S' hj => ?_)
  refine S'.note (F := F.at g) (s := { s with heap := h', toks := tk' }) x1 hj ev_frame fun g2 ω2 σ2 i h2 n2 l2 k2 x2 S2 => ?_
  refine S2.flight (s := { s with heap := h2, toks := tk' }) x2 (l2.at hj) fun h3 S3 => ?_
  obtain ⟨d, hσ⟩ := x2.at_
  obtain ⟨o, ho, hr⟩ := S3.atL hσ (l2.at hj)
  obtain ⟨M, Fh, _⟩ := id S3.lo
  refine wpAny_handleBy_cons (codeAny_handlers_test ?_) (by intro q; cases q)
  have he : ev c F = envX c.cn c.cs F.L c.a c.ccd F.cl := by unfold ev; rw [hb]
  rw [he]
  refine nameX_K (s := { s with heap := h3, toks := tk' }) Fh S3.X (topRead_of S3.T) (v := .ref 52) (by kernel_rfl!) ?_ S3.hK hx (by decide +kernel)
  replace hr := hr.m
  obtain ⟨_, r1, r2, r3, r4, r5, r6, r7⟩ := hr
  refine excMatches_52 S3.KIn ho r1 ?_
  refine codeAny_handlers_suite ?_
  refine S3.flight (s := { s with heap := h3, toks := tk' }) x2 (l2.at hj) fun h4 S4 => ?_
  refine wpAny_execs_cons (wpAny_Return_some (wpAny_Constant_none ?_))
  exact p g2 ω2 σ2 (.ret .none) h4 tk' (n1.trans n2) (l1.trans l2) (k1.trans k2) S4 (.ret .none)
theorem s_try_ret {body : List Stmt} {h₀ : ExceptHandler} {hs : List ExceptHandler} (h : Sx G c m σ body (.ret v) m' σ') : S1 G c m σ (.Try body (h₀ :: hs) [] [] pos) (.ret v) m' σ' := fun F ω s S Q E p =>
  wpAny_Try_except (h F ω s S _ _ fun ω' fl' h' tk' l1 S' hf => by
    cases hf with
    | ret hv => exact p ω' _ h' tk' l1 S' (.ret hv))
theorem sxX_of (h : Sx G c m σ ss fl m' σ') : SxX G c m σ ss fl σ' := fun F ω s S Q E p => h F ω s S Q E fun ω' fl' h' tk' l S' hf => p F.h₀ ω' m' σ' fl' h' tk' (.refl _) l (.refl _) S' hf
theorem evX_of (h : Ev G c m σ e v σ') : EvX G c m σ e v σ' := fun F ω s S Q E p => h F ω s S Q E fun ω' v' h' tk' l S' hv => p F.h₀ ω' σ' v' h' tk' (.refl _) l (.refl _) S' hv
theorem sxX_head (h : S1X G c m σ st fl m' τ) (hn : fl ≠ .next := by ked_reads) : SxX G c m σ (st :: ss) fl τ := fun F ω s S Q E p =>
  wpAny_execs_cons (h F ω s S _ E fun g ω₁ σ₁ fl' h' tk' n hl k S₁ hf => by cases hf with
    | next => exact absurd rfl hn
    | cont => exact p g ω₁ _ _ _ h' tk' n hl k S₁ .cont
    | ret hv => exact p g ω₁ _ _ _ h' tk' n hl k S₁ (.ret hv))
theorem sxX_next (h : S1 G c m σ st .next m₁ σ₁) (h2 : SxX G c m₁ σ₁ ss fl τ) : SxX G c m σ (st :: ss) fl τ := fun F ω s S Q E p =>
  wpAny_execs_cons (h F ω s S _ E fun ω₁ fl' h' tk' hl S₁ hf => by
    cases hf
    exact h2 F ω₁ _ S₁ Q E fun g ω' m' σ' fl' h' tk' n l k S' hf => p g ω' m' σ' fl' h' tk' n (hl.trans l) k S' hf)
theorem sxX_then (h : S1X G c m σ st .next m₁ τ) (h2 : ∀ σ', Kp τ σ' → SxX G c m₁ σ' ss fl τ') : SxX G c m σ (st :: ss) fl τ' := fun F ω s S Q E p =>
  wpAny_execs_cons (h F ω s S _ E fun g ω₁ σ₁ fl' h' tk' n hl k S₁ hf => by
    cases hf
    exact h2 σ₁ k (F.at g) ω₁ { s with heap := h', toks := tk' } S₁ Q E fun g' ω' m' σ' fl' h' tk' n' l k S' hf => p g' ω' m' σ' fl' h' tk' (n.trans n') (hl.trans l) k S' hf)
theorem SxX.weak (h : SxX G c m σ ss fl τ) (k : Kp τ' τ) : SxX G c m σ ss fl τ' := fun F ω s S Q E p => h F ω s S Q E fun g ω' m' σ' fl' h' tk' n l k' S' hf => p g ω' m' σ' fl' h' tk' n l (k.trans k') S' hf
theorem ClX.up {k k' : Nat} {args : List AV} (h : ClX G k f args σ v τ) (hk : k ≤ k') : ClX G k' f args σ v τ := fun c F ω m s args' hc => h c F ω m s args' (Nat.le_trans hk hc)
theorem evX_call {k : Nat} (hf : Ev G c m σ (.Name x pos') (.glob f) σ) (he : Evs G c m σ es vs σ₁) (hk : KpV G f) (hc : ClX G k f vs σ₁ v τ) (hkc : k ≤ c.k := by decide) (hp : plainArgs es := by ked_read) : EvX G c m σ (.Call (.Name x pos') es [] pos) v τ := fun F ω s S Q E p =>
  wpAny_Call_NameR (hf F ω s S _ E fun ω₁ f' h' tk' l1 S₁ hv => by
    cases hv
    refine callWith_of (P := G.K.In) (by rw [backTo_plain hp]; rfl) (hk _) (evalArgs_of hp (he F ω₁ { s with heap := h', toks := tk' } pos S₁ _ E fun ω₂ ws h2 tk2 l2 S₂ hvs => ⟨S₂.KIn, ?_⟩))
    exact hc c F ω₂ m { s with heap := h2, toks := tk2 } ws hkc S₂ hvs Q E fun g ω' σ' v' h' tk' n l k S' hv' => p g ω' σ' v' h' tk' n ((l1.trans l2).trans l) k S' hv')
theorem s_assignX (h : EvX G c m σ e v τ) (h2 : ∀ σ', Kp τ σ' → Sn G c m σ' x v m' σ') (hs : ∀ env, swapsWith e (some (.Name x pos')) pos.line env = pure false := by ked_read) : S1X G c m σ (.Assign [.Name x pos'] e pos) .next m' τ := fun F ω s S Q E p =>
  wpAny_Assign_Name (h F ω s S _ E fun g ω' σ' v' h' tk' n l1 k S₁ hv => h2 σ' k (F.at g) ω' { s with heap := h', toks := tk' } v' S₁ hv _ E fun h'' tk'' S₂ => p g ω' σ' _ h'' tk'' n l1 k S₂ .next) (hs _)
theorem s_retX (h : EvX G c m σ e v τ) : S1X G c m σ (.Return (some e) pos) (.ret v) m τ := fun F ω s S Q E p =>
  wpAny_Return_some (h F ω s S _ E fun g ω' σ' v' h' tk' n l1 k S₁ hv => p g ω' σ' _ h' tk' n l1 k S₁ (.ret hv))
theorem evX_and_t {x y : Expr} (h1 : EvX G c m σ x a τ) (ht : ∀ σ', Tru G σ' a true) (h2 : ∀ σ', Kp τ σ' → EvX G c m σ' y v τ') : EvX G c m σ (.BoolOp .And [x, y] pos) v τ' := fun F ω s S Q E p =>
  wpAny_And2 (h1 F ω s S _ E fun g ω₁ σ₁ a' h₁ t₁ n l1 k S₁ ra => ht σ₁ c (F.at g) ω₁ m { s with heap := h₁, toks := t₁ } a' S₁ ra _ E fun tk => by
    rw [if_pos rfl]
    exact h2 σ₁ k (F.at g) ω₁ { s with heap := h₁, toks := tk } S₁ Q E fun g' ω' σ' v' h' tk' n' l k S' hv => p g' ω' σ' v' h' tk' (n.trans n') (l1.trans l) k S' hv)

/-! defs -/
section
variable {prog : Program} {w : World} {A A₀ : Around} {s : Shared} {K : Frag} {L : Addr} {h₀ base : Heap} {M mg mb : PySem.Str → Option Value} {news : List (Addr × Obj)} {p : Program} {loose : List PySem.Str} {mean : ExcName → Option Value}
  {env : Env} {outer : List Env} {R : Result → Shared → Prop} {name qual : PySem.Str} {params : Arguments} {body : List Stmt} {scope : Scope} {dV kV doc pm cdv ct oc : Value} {an od : Option Addr} {osl : Array (Option Value)} {f : Addr} {args : Args} {binds : List (PySem.Str × Value)}
theorem code_defY
    (B : Below A₀ base outer h₀) (F : Fr h₀ L s.heap M) (X₀ : K.In h₀) (N : News h₀ L s.heap news) (T : Top p loose mean mg mb h₀) (hA : A.frames = some (env :: outer)) (hf : env.frame = some L) (hke : env.scope.kind = .function)
    (ho : K.lookup f = some ⟨oc, od, .func (fnOf name qual params body scope dV kV doc pm an cdv ct), osl⟩) (hcd : codeIn K cdv qual = true) (hroom : A.depth < recursionLimit)
    (hbind : BindsTo s (fnOf name qual params body scope dV kV doc pm an cdv ct) args binds) (hloc : ∀ y ∈ binds, scope.names.lookup y.1 = some .local)
    (h : ∀ g L' h₁, Fr h₀ L g M → Fr g L' h₁ (fun y => binds.reverse.lookup y) → News g L' h₁ news → Below A base (env :: outer) g → K.In g → Top p loose mean mg mb g →
      wpAny (model prog w) (A.deeper (envOf qual scope L' f cdv)) (execs body (envOf qual scope L' f cdv))
        (fun fl s' => R (.ok (.ret (match fl with | .ret v => v | _ => .none))) s')
        (fun e s' => wpAny (model prog w) (A.deeper (envOf qual scope L' f cdv)) (leaving (envOf qual scope L' f cdv) e) (fun _ s'' => R (.error e) s'') (fun e' s'' => R (.error e') s'') s')
        { s with heap := h₁, toks := s.toks + binds.length })
    (hco : scope.isCoroutine = false) (hgen : scope.isGenerator = false) (hk : scope.kind = .function)
    (hcell : ∀ x ∈ scope.names, x.2 ≠ .cell) : codeAny (model prog w) A (.call (.ref f) args) R s := by
  obtain ⟨FG, BG, st, lv⟩ := groundX (R := R) B F N hA hf hke
  refine codeAny_call_def (fd := fnOf name qual params body scope dV kV doc pm an cdv ct) (body := body) (binds := binds) hroom ((X₀.keeps F.keep) _ _ ho) rfl (T.nolimit.keeps F.keep) (codeRec_of (X₀.keeps F.keep) hcd) rfl hbind hcell hloc (fun h₁ hns hk₁ => ?_) hco hgen hk
  exact wpAny_mono (h _ s.heap.objs.size h₁ FG ⟨hns, fun b o e => hk₁ b o (of_hideAll _ e), Nat.le_of_eq (hideAll_size _ _)⟩
    (fun p hp => ⟨hk₁ _ _ (N p hp).1, Nat.ne_of_lt (Heap.lt_size (N p hp).1), hideAll_none _ (List.mem_map_of_mem hp)⟩) BG (X₀.keeps st) (T.keeps st)) (fun fl s' hl => hl) fun _ _ y => y
theorem code_defCY
    (B : Below A₀ base outer h₀) (F : Fr h₀ L s.heap M) (X₀ : K.In h₀) (N : News h₀ L s.heap news) (T : Top p loose mean mg mb h₀) (hA : A.frames = some (env :: outer)) (hf : env.frame = some L) (hke : env.scope.kind = .function)
    (ho : K.lookup f = some ⟨oc, od, .func (fnOf name qual params body scope dV kV doc pm an cdv ct), osl⟩) (hcd : codeIn K cdv qual = true) (hroom : A.depth < recursionLimit)
    (hbind : BindsTo s (fnOf name qual params body scope dV kV doc pm an cdv ct) args binds) (hkind : (binds.all fun y => scope.names.lookup y.1 == some .local || scope.names.lookup y.1 == some .cell) = true)
    (hnd : ((cellsFrom 0 scope.names []).map (·.1)).Nodup)
    (h : ∀ g L' h₁ tk cells, Fr h₀ L g M → Fr g L' h₁ (bindL (envOfC qual scope L' f cdv).kindOf binds fun _ => none) → News g L' h₁ (cells ++ news) →
      CellsAre (bindC (envOfC qual scope L' f cdv).kindOf binds fun _ => none) (cellsFrom (L' + 1) scope.names []) cells → Below A base (env :: outer) g → K.In g → Top p loose mean mg mb g → (∀ p ∈ news, p.1 < L') →
      wpAny (model prog w) (A.deeper (envOfC qual scope L' f cdv)) (execs body (envOfC qual scope L' f cdv))
        (fun fl s' => R (.ok (.ret (match fl with | .ret v => v | _ => .none))) s')
        (fun e s' => wpAny (model prog w) (A.deeper (envOfC qual scope L' f cdv)) (leaving (envOfC qual scope L' f cdv) e) (fun _ s'' => R (.error e) s'') (fun e' s'' => R (.error e') s'') s')
        { s with heap := h₁, toks := tk })
    (hco : scope.isCoroutine = false) (hgen : scope.isGenerator = false) (hk : scope.kind = .function) : codeAny (model prog w) A (.call (.ref f) args) R s := by
  obtain ⟨FG, BG, st, lv⟩ := groundX (R := R) B F N hA hf hke
  refine codeAny_call_function hroom ((X₀.keeps F.keep) _ _ ho) rfl hco hgen rfl (codeRec_of (X₀.keeps F.keep) hcd) (hbind _ _ _ _ ?_)
  refine wpAny_newFunctionEnv_cells hk (kindsX hkind _) fun env' he s' x => ?_
  subst he
  refine ⟨(T.nolimit.keeps F.keep).keeps x.toInCall.keep, codeAny_func ?_⟩
  obtain ⟨h₁, tk, rfl, _⟩ := x.done
  have hk₁ := x.toInCall.keep
  obtain ⟨cells, NC, Y⟩ := PyProof.Rows.Cl.news (h₀ := s.heap) (Nat.le_refl _) fun n c hm => ⟨x.cell n c (lookup_of_mem_nodup (cellsFrom_names scope.names 0 (s.heap.objs.size + 1) [] [] rfl ▸ hnd) hm), x.above n c hm⟩
  refine wpAny_mono (h _ s.heap.objs.size h₁ tk cells FG ⟨x.toInCall.ns, fun b o e => hk₁ b o (of_hideAll _ e), Nat.le_of_eq (hideAll_size _ _)⟩ (fun p hp => ?_) Y BG (X₀.keeps st) (T.keeps st) (fun p hp => Heap.lt_size (N p hp).1)) (fun fl s' hl => hl) fun _ _ y => y
  rcases List.mem_append.mp hp with hp | hp
  · refine ⟨(NC p hp).1, (NC p hp).2.1, ?_⟩
    cases q : (hideAll s.heap (news.map (·.1))).get? p.1 with
    | none => rfl
    | some o => have := of_hideAll _ q; rw [(NC p hp).2.2] at this; cases this
  · exact ⟨hk₁ _ _ (N p hp).1, Nat.ne_of_lt (Heap.lt_size (N p hp).1), hideAll_none _ (List.mem_map_of_mem hp)⟩
end
theorem code_inX {k : Nat} {q : PySem.Str} {sf : Stmt} {dV pm cdv : Value} {xs : List PySem.Str}
    {fa : Addr} (ho : G.K.lookup fa = some (fo sf q dV pm cdv)) (hcd : codeIn G.K cdv q = true)
    (hbind : ∀ s ws, G.K.In s.heap → ws.length = vs.length → BindsTo s (fdOf sf q dV pm cdv) ⟨ws, []⟩ (xs.zip ws))
    (hloc : (xs.all fun x => (dScope sf).names.lookup x == some .local) = true) (hnd : xs.Nodup)
    (hbody : SxX G ⟨k, q, dScope sf, fa, cdv, [], none⟩ (xs.zip vs) σ (dBody sf) fl τ)
    (hcell : ((dScope sf).names.all fun x => x.2 != .cell) = true) (hco : (dScope sf).isCoroutine = false) (hgen : (dScope sf).isGenerator = false) (hk : (dScope sf).kind = .function)
    {s : Shared} {args' : List Value} {A : Around} (hle : k < c.k) (S : St G c F ω m σ s.heap) (hAf : A.frames = F.A.frames) (hAh : A.handled = F.A.handled) (hAd : A.depth + 4 * k + 1 ≤ 900) (hAu : A.units + 8 * k + 3 ≤ 9000) (hv : VRs G.K ω vs args') {R : Result → Shared → Prop}
    (p : PoX G c F ω m τ (retOf fl) s (fun v s' => R (.ok (.ret v)) s')) :
    codeAny (model P0 G.w) A (.call (.ref fa) ⟨args', []⟩) R s := by
  obtain ⟨M, Fh, hM⟩ := S.lo
  obtain ⟨os, N, hl, rr⟩ := S.hp
  have hD := S.hD
  have hU := S.hU
  refine code_defY (R := R) S.B Fh S.X N S.T (hAf.trans S.hA) rfl S.hK ho hcd (by show A.depth < 1000; omega) (hbind s args' (S.X.keeps Fh.keep) hv.length) (fun y hy => ?_) (fun g L' h₁ FG F' N' B' X' T' => ?_) hco hgen hk (fun y hy => by simpa using List.all_eq_true.mp hcell y hy)
  · have := List.all_eq_true.mp hloc y.1 (zip_mem_fst hy)
    simpa using this
  · refine hbody ⟨A, A.deeper (envOf q (dScope sf) L' fa cdv), F.base, envX c.cn c.cs F.L c.a c.ccd F.cl :: F.outer, g, L', [], 0, [], "", none⟩ ω _ (S.calleeP (k := k) hnd hk hAf hAh hAd hAu hv hl rr F' N' B') _ _ ?_
    intro g1 ω' m1 σ' fl' h' tk' n1 l1 k1 S' hf
    obtain ⟨M', F'', _⟩ := S'.lo
    obtain ⟨os', N'', hl', rr'⟩ := S'.hp
    obtain ⟨g0, n0, S0⟩ := S.backN l1 hM FG n1 F'' N'' hl' rr' S'.nd S'.gt
    exact p g0 ω' σ' _ h' tk' n0 l1 k1 S0 (by cases hf with | next => exact .none | cont => exact .none | ret h => exact h)
theorem cl_defX {k : Nat} {q : PySem.Str} {sf : Stmt} {dV pm cdv : Value} {xs : List PySem.Str}
    {fa : Addr} (ho : G.K.lookup fa = some (fo sf q dV pm cdv)) (hcd : codeIn G.K cdv q = true)
    (hbind : ∀ s ws, G.K.In s.heap → ws.length = vs.length → BindsTo s (fdOf sf q dV pm cdv) ⟨ws, []⟩ (xs.zip ws))
    (hloc : (xs.all fun x => (dScope sf).names.lookup x == some .local) = true) (hnd : xs.Nodup)
    (hbody : SxX G ⟨k, q, dScope sf, fa, cdv, [], none⟩ (xs.zip vs) σ (dBody sf) fl τ)
    (hcell : ((dScope sf).names.all fun x => x.2 != .cell) = true) (hco : (dScope sf).isCoroutine = false) (hgen : (dScope sf).isGenerator = false) (hk : (dScope sf).kind = .function) (hr : retOf fl = v) :
    ClX G (k + 1) (.ref fa) vs σ v τ := hr ▸ fun c F ω m s args' hle S hv Q E p =>
  wpAny_call (code_inX ho hcd hbind hloc hnd hbody hcell hco hgen hk (Nat.lt_of_succ_le hle) S rfl rfl (by have := S.hD; omega) (by have := S.hU; omega) hv p)
theorem code_inCX {k n : Nat} {q : PySem.Str} {sf : Stmt} {dV pm cdv : Value} {xs : List PySem.Str} {cs : List (PySem.Str × Nat)} {ca : List AO}
    {fa : Addr} (ho : G.K.lookup fa = some (fo sf q dV pm cdv)) (hcd : codeIn G.K cdv q = true)
    (hbind : ∀ s ws, G.K.In s.heap → ws.length = vs.length → BindsTo s (fdOf sf q dV pm cdv) ⟨ws, []⟩ (xs.zip ws))
    (hloc : (xs.all fun x => (dScope sf).names.lookup x == some .local || (dScope sf).names.lookup x == some .cell) = true) (hnd : xs.Nodup) (hlen : xs.length = vs.length)
    (hml : ml = (xs.zip vs).filter fun p => (dScope sf).names.lookup p.1 == some .local) (hn : σ.length = n)
    (hcs : cs = cellsAt n ((cellsFrom 0 (dScope sf).names []).map (·.1))) (hca : ca = ((cellsFrom 0 (dScope sf).names []).map (·.1)).map fun x => .cell (lk x (xs.zip vs)))
    (hkc : (((cellsFrom 0 (dScope sf).names []).map (·.1)).all fun x => (dScope sf).names.lookup x == some .cell) = true) (hndc : ((cellsFrom 0 (dScope sf).names []).map (·.1)).Nodup)
    (hbody : SxX G ⟨k, q, dScope sf, fa, cdv, cs, none⟩ ml (σ ++ ca) (dBody sf) fl τ)
    (hco : (dScope sf).isCoroutine = false) (hgen : (dScope sf).isGenerator = false) (hk : (dScope sf).kind = .function)
    {s : Shared} {args' : List Value} {A : Around} (hle : k < c.k) (S : St G c F ω m σ s.heap) (hAf : A.frames = F.A.frames) (hAh : A.handled = F.A.handled) (hAd : A.depth + 4 * k + 1 ≤ 900) (hAu : A.units + 8 * k + 3 ≤ 9000) (hv : VRs G.K ω vs args') {R : Result → Shared → Prop}
    (p : PoX G c F ω m τ (retOf fl) s (fun v s' => R (.ok (.ret v)) s')) :
    codeAny (model P0 G.w) A (.call (.ref fa) ⟨args', []⟩) R s := by
  obtain ⟨M, Fh, hM⟩ := S.lo
  have hsl := S.len
  obtain ⟨os, N, hl, rr⟩ := S.hp
  refine code_defCY (R := R) S.B Fh S.X N S.T (hAf.trans S.hA) rfl S.hK ho hcd (by show A.depth < 1000; omega) (hbind s args' (S.X.keeps Fh.keep) hv.length) ?_ hndc (fun g L' h₁ tk cells FG F' N' Y B' X' T' hlt => ?_) hco hgen hk
  · refine List.all_eq_true.mpr fun y hy => ?_
    exact List.all_eq_true.mp hloc y.1 (zip_mem_fst hy)
  · obtain ⟨lw, SC⟩ := S.calleeC (k := k) hnd hml hn hcs hca hkc hk hAf hAh hAd hAu hv hl rr F' N' Y B' X' hlt
    refine hbody ⟨A, A.deeper (envOfC q (dScope sf) L' fa cdv), F.base, envX c.cn c.cs F.L c.a c.ccd F.cl :: F.outer, g, L', cellsFrom (L' + 1) (dScope sf).names [], 0, [], "", none⟩ ⟨ω.as ++ cells.map (·.1), ω.T⟩ _ SC _ _ ?_
    intro g1 ω' m1 σ' fl' h' tk' n1 l1 k1 S' hf
    obtain ⟨M', F'', _⟩ := S'.lo
    obtain ⟨os', N'', hl', rr'⟩ := S'.hp
    obtain ⟨g0, n0, S0⟩ := S.backN (lw.trans l1) hM FG n1 F'' N'' hl' rr' S'.nd S'.gt
    exact p g0 ω' σ' _ h' tk' n0 (lw.trans l1) k1 S0 (by cases hf with | next => exact .none | cont => exact .none | ret h => exact h)
theorem cl_defCX {k n : Nat} {q : PySem.Str} {sf : Stmt} {dV pm cdv : Value} {xs : List PySem.Str} {cs : List (PySem.Str × Nat)} {ca : List AO}
    {fa : Addr} (ho : G.K.lookup fa = some (fo sf q dV pm cdv)) (hcd : codeIn G.K cdv q = true)
    (hbind : ∀ s ws, G.K.In s.heap → ws.length = vs.length → BindsTo s (fdOf sf q dV pm cdv) ⟨ws, []⟩ (xs.zip ws))
    (hloc : (xs.all fun x => (dScope sf).names.lookup x == some .local || (dScope sf).names.lookup x == some .cell) = true) (hnd : xs.Nodup) (hlen : xs.length = vs.length)
    (hml : ml = (xs.zip vs).filter fun p => (dScope sf).names.lookup p.1 == some .local) (hn : σ.length = n)
    (hcs : cs = cellsAt n ((cellsFrom 0 (dScope sf).names []).map (·.1))) (hca : ca = ((cellsFrom 0 (dScope sf).names []).map (·.1)).map fun x => .cell (lk x (xs.zip vs)))
    (hkc : (((cellsFrom 0 (dScope sf).names []).map (·.1)).all fun x => (dScope sf).names.lookup x == some .cell) = true) (hndc : ((cellsFrom 0 (dScope sf).names []).map (·.1)).Nodup)
    (hbody : SxX G ⟨k, q, dScope sf, fa, cdv, cs, none⟩ ml (σ ++ ca) (dBody sf) fl τ)
    (hco : (dScope sf).isCoroutine = false) (hgen : (dScope sf).isGenerator = false) (hk : (dScope sf).kind = .function) (hr : retOf fl = v) :
    ClX G (k + 1) (.ref fa) vs σ v τ := hr ▸ fun c F ω m s args' hle S hv Q E p =>
  wpAny_call (code_inCX ho hcd hbind hloc hnd hlen hml hn hcs hca hkc hndc hbody hco hgen hk (Nat.lt_of_succ_le hle) S rfl rfl (by have := S.hD; omega) (by have := S.hU; omega) hv p)
end
end SM22
section SM23
open PySem PySem.W PySem.Calls PyProof.Rows Builtin Builtin.ObjectAttr
/-! the class of the exception -/
noncomputable abbrev bm52 : List Value := [.ref 39, .type "Exception", .type "BaseException", .type "object"]
noncomputable abbrev cls52 : Obj := excClassObj "LowerFault" "LowerFault" 52 51 [.ref 39] bm52 true [] [] false none none (some (.ref 43)) none (some (.str "LowerFault" 227)) (some (.str "LowerFault" 235)) (some (.bool true)) "Exception.__new__"
theorem at52 {K : Frag} {G : Gl} (X : G.K.In h) : h.get? 52 = some cls52 := X 52 _ rfl
section
variable {G : Gl} {w : World} {M : Model} {A : Around} {E : Value → Shared → Prop} {h : Heap} {g : Array GenState} {d : Drawn} {t : Nat} {os : OsState} {R : Result → Shared → Prop}
theorem check_new52 {rest : List Value} {Q : Unit → Shared → Prop} (hC : h.get? 52 = some cls52) (hq : Q () ⟨h, g, d, t, os⟩) : wpAny M A (checkBuiltinCall "Exception.__new__" ⟨.ref 52 :: rest, []⟩) Q E ⟨h, g, d, t, os⟩ := by
  have Fn := PySem.F.excBase_Exception
  have hcont : (Value.ref 52 :: bm52).contains (.type "Exception") = true := by decide +kernel
  have hstar := Fn.noStar
  simp only [checkBuiltinCall, Fn.newKind, Fn.newSplit, Fn.newRow]
  repeat (first | refine wpAny_loadPart_at hC ?_ | (refine wpAny_isSubtype_exc hC ?_; rw [hcont]) | refine wpAny_staticBase_exc hC ?_ | refine wpAny_madeBy_exc hC ?_ | simp only [bne_self_eq_false, Bool.false_eq_true, if_false] | wp_step)
  exact hq
theorem exc_new52 {rest : List Value} (hC : h.get? 52 = some cls52)
    (hq : R (.ok (.ret (.ref (h.objs.size + 1)))) ⟨(h.push { cls := .type "tuple", data := .seq rest.toArray }).push
      { cls := .ref 52, data := .fields #[.ref h.objs.size, .none, .none, .none, .bool false, .none] }, g, d, t, os⟩) (hrest : rest.length ≤ sizeLine) :
    codeAny (model P0 w) A (.builtin "Exception.__new__" ⟨.ref 52 :: rest, []⟩) R ⟨h, g, d, t, os⟩ := by
  have Fn := PySem.F.excBase_Exception
  have hends := Fn.ends
  have hcB : (Value.ref 52 :: bm52).contains (.type "Exception") = true := by decide +kernel
  have hcA : (Value.ref 52 :: bm52).contains (.type "AttributeError") = false := by decide +kernel
  have hcN : (Value.ref 52 :: bm52).contains (.type "NameError") = false := by decide +kernel
  refine codeAny_builtinAt Fn.entry ?_
  unfold Builtin.«BaseException.__new__»
  refine PySem.wpAt_bind ?_
  show PySem.wpAt _ _ _ (stack >>= _) _ _ _
  refine PySem.wpAt_bind (PySem.wpAt_stack fun p below => PySem.wpAt_of_wpAny ?_)
  wp_walk
  refine PySem.wpAt_of_wpAny ?_
  rw [Fn.owner]
  repeat (first | with_reducible refine wpAny_madeHere_exc Fn.canon hC ?_ | with_reducible refine wpAny_loadPart_at hC ?_ | (with_reducible refine wpAny_isSubtype_exc hC ?_; first | rw [hcB] | rw [hcA] | rw [hcN]) | wp_step)
  show R _ _
  rw [Heap.size_push]
  exact hq
theorem call52 {rest : List Value} {Q : Value → Shared → Prop} (X : G.K.In h)
    (hq : ∀ h1 h2, h1 = h.push { cls := .type "tuple", data := .seq rest.toArray } → h2 = h1.push { cls := .ref 52, data := .fields #[.ref h.objs.size, .none, .none, .none, .bool false, .none] } →
      wpAny (model P0 w) (A.under (.builtin "type.__call__" ⟨.ref 52 :: rest, []⟩)) (call (.ref 36) (.ref h1.objs.size :: rest)) (fun r s' => r = .none ∧ Q (.ref h1.objs.size) s') E ⟨h2, g, d, t, os⟩) (hrest : rest.length ≤ sizeLine) :
    wpAny (model P0 w) A (call (.ref 52) rest) Q E ⟨h, g, d, t, os⟩ := by
  have hC := at52 (K := G.K) X
  have f1 := tc_lookup
  have f2 := tc_bind (.ref 52)
  have hT : (⟨h, g, d, t, os⟩ : Shared).TypeIs (.ref 52) "type" := ⟨_, hC, rfl⟩
  refine wpAny_call (codeAny_of_tree ?_)
  show wpAny _ _ (callAny (.ref 52) _) _ _ _
  repeat (any_goals (first | assumption | with_reducible refine wpAny_loadPart_at hC ?_ | wp_step))
  refine ⟨rfl, ?_⟩
  refine codeAny_call_builtin_at (Code.quiet_builtin _ (by decide +kernel)) entry_typeCall (wpAny_check_type_call_sub hC ?_)
  have Fn := PySem.F.excBase_Exception
  repeat (first | with_reducible refine wpAny_loadPart_at hC ?_ | with_reducible refine wpAny_madeBy_exc hC ?_ | wp_step)
  refine codeAny_call_builtin_code (Code.quiet_builtin _ Fn.quiet) (check_new52 hC ?_)
  refine exc_new52 hC ?_ hrest
  show wpAny _ _ _ _ _ _
  have k : ∀ b o, h.get? b = some o → ((h.push { cls := .type "tuple", data := .seq rest.toArray }).push { cls := .ref 52, data := .fields #[.ref h.objs.size, .none, .none, .none, .bool false, .none] }).get? b = some o :=
    fun b o e => Heap.get?_push_of_some _ (Heap.get?_push_of_some _ e)
  have X₁ := X.keeps k
  have hC₁ := k _ _ hC
  have hget : ((h.push { cls := .type "tuple", data := .seq rest.toArray }).push
      { cls := .ref 52, data := .fields #[.ref h.objs.size, .none, .none, .none, .bool false, .none] }).get? (h.objs.size + 1) = some
      { cls := .ref 52, data := .fields #[.ref h.objs.size, .none, .none, .none, .bool false, .none] } := by heap_get
  have hcC : (Value.ref 52 :: bm52).contains (.ref 52) = true := by decide +kernel
  unfold isInstance
  repeat (first | with_reducible refine wpAny_loadPart_at hget ?_ | wp_step)
  show wpAny _ _ (isSubtype (.ref 52) (.ref 52)) _ _ _
  refine wpAny_isSubtype_exc hC₁ ?_
  rw [hcC]
  repeat (first | with_reducible refine wpAny_loadPart_at hget ?_ | wp_step)
  show wpAny _ _ (typeLookup (.ref 52) _) _ _ _
  refine (looks_findIn (K := G.K) (r := some (.ref 36)) X₁ (by kernel_rfl!)).here ?_
  refine wpAny_holding (wpAny_bind ?_)
  unfold bindSpecial
  refine wpAny_bind (wpAny_typeOf (T := "function") ⟨_, X₁ 36 _ rfl, rfl⟩ ?_)
  rw [if_pos (by decide)]
  have hs : (h.push { cls := .type "tuple", data := .seq rest.toArray }).objs.size = h.objs.size + 1 := by rw [Heap.size_push]
  have := hq _ _ rfl rfl
  rw [hs] at this
  refine wpAny_pure (wpAny_bind (wpAny_mono this (fun r s' hr => ?_) fun _ _ x => x))
  obtain ⟨rfl, hQ⟩ := hr
  wp_walk
  exact hQ
end
end SM23
section SM24
open PySem PySem.W PySem.Calls PyProof.Rows Builtin Builtin.ObjectAttr
section
variable {G : Gl} {w : World} {M : Model} {A : Around} {E : Value → Shared → Prop} {h : Heap} {g : Array GenState} {d : Drawn} {t : Nat} {os : OsState} {R : Result → Shared → Prop}
theorem check_init52 {e : Addr} {oe : Obj} {rest : List Value} {Q : Unit → Shared → Prop}
    (hC : h.get? 52 = some cls52) (he : h.get? e = some oe) (hcls : oe.cls = .ref 52) (hq : Q () ⟨h, g, d, t, os⟩) :
    wpAny M A (checkBuiltinCall "Exception.__init__" ⟨.ref e :: rest, []⟩) Q E ⟨h, g, d, t, os⟩ := by
  have F := PySem.F.excBase_Exception
  have hcB : (Value.ref 52 :: bm52).contains (.type "Exception") = true := by decide +kernel
  have hshort := F.noStar
  simp only [checkBuiltinCall, F.initKind, F.initSplit, F.initRow]
  repeat (first | (with_reducible refine wpAny_loadPart_at he ?_; rw [hcls]) | with_reducible refine wpAny_loadPart_at hC ?_ | (with_reducible refine wpAny_isSubtype_exc hC ?_; rw [hcB]) | wp_step)
  refine wpAny_onRaise ?_
  rw [show ∀ (a b : String) (n : Nat), Bind.check ⟨.positional, "*", "Exception", .self, [⟨"args", .varPos, false⟩]⟩ a b n (List.map (fun x => x.fst) ({ pos := Value.ref e :: rest } : Args).kw) = pure () from
    fun a b n => check_star_args _ _ _ _ _ _]
  exact wpAny_pure hq
theorem store_dictOf {s : Shared} {dx : Addr} {ds : List DictEntry} {n : Nat} {name : PySem.Str} {tk : Tok} {v : Value} {Q : PySem.Fin → Shared → Prop} (D : s.heap.get? dx = some (dictOf ds n)) (hl : (PySem.W.getL name ds).isSome = true)
    (hz : (PySem.W.putL name (PyData.keyHash w.params name) (.str name s.toks) v ds).length ≤ 1000)
    (q : ∀ h', Heap.SameBut dx s.heap h' → h'.get? dx = some (dictOf (PySem.W.putL name (PyData.keyHash w.params name) (.str name s.toks) v ds) (putN name ds n)) → Q (.done (.ret .none)) { s with heap := h', toks := s.toks + 1 }) :
    wpAny (model P0 w) A (storeInDict dx (.str name tk) name v) Q E s := by
  have D' : (s.heap.update dx (Obj.putName name (PyData.keyHash w.params name) (.str name s.toks) v)).get? dx = some (dictOf (PySem.W.putL name (PyData.keyHash w.params name) (.str name s.toks) v ds) (putN name ds n)) := by
    rw [Heap.get?_update_self _ D (by rw [putName_dict]; rfl), putName_dict]
  unfold storeInDict newKeyGuard
  refine wpAny_bind (wpAny_pure (wpAny_bind ?_))
  unfold nsSet
  refine wpAny_bind (wpAny_bind (wpAny_askSetting (wpAny_pure (wpAny_bind (wpAny_mkText (wpAny_bind (wpAny_loadPart D ?_)))))))
  dsimp only
  have c : (!ds.toArray.any (·.key.isStr name) && ds.toArray.any (·.refKey)) = false := by
    rw [← Array.any_toList, ← Array.any_toList]
    unfold PySem.W.getL at hl
    split at hl
    · rename_i en he
      rw [List.any_eq_true.mpr ⟨en, List.mem_of_find?_eq_some he, List.find?_some he⟩]; rfl
    · split at hl
      · cases hl
      · rename_i z; rw [Bool.not_eq_true] at z; rw [z, Bool.and_false]
  rw [aRefKeyMayBeTheName_at, c]
  refine wpAny_updatePart D ?_
  refine wpAny_bind (wpAny_lookBehind D' (pastItsLine_dict (by rw [List.size_toArray, sizeLine_eq]; omega)) ?_)
  exact wpAny_pure (q _ (Heap.SameBut.update ..) D')
theorem osa52 {s : Shared} {x : Addr} {ox : Obj} {name : PySem.Str} {tk : Tok} {v : Value} (X : G.K.In s.heap) (hx : s.heap.get? x = some ox) (hc : ox.cls = .ref 52)
    (hn : takerIn G.K 52 name = some none)
    (q : ∀ b, wpAny (model P0 w) A.in1 (storeInOwnDict (.ref x) (.ref 52) (.str name tk) name v b)
      (fun fin s' => match fin with | .done f => R (.ok f) s' | .again c' => c'.quiet = true ∧ codeAny (model P0 w) A c' R s') (fun e s' => R (.error e) s') s) :
    codeAny (model P0 w) A (.call (.builtin "object.__setattr__") ⟨[.ref x, .str name tk, v], []⟩) R s := by
  have SF := PySem.F.store_object
  have ty : ∀ M, Looks M s.heap (typeOf (.ref x)) (.ref 52) := fun M => hc ▸ ((Looks.ld hx).andThen .now)
  have sub : ∀ M, Looks M s.heap (isInstance (.ref x) (.type "object")) true := fun M => (ty M).andThen (looks_mroIn (K := G.K) X (by kernel_rfl!))
  refine codeAny_call_builtin SF.slot.plain SF.entry (@check_slot (model P0 w) _ _ s "object.__setattr__" "object" "__setattr__" (.ref x) [.str name tk, v] [] _ SF.kind SF.split (sub _) (SF.args (.ref x) (.str name tk) v) ?_)
  obtain ⟨attr, ha, hr⟩ := Option.bind_eq_some_iff.mp hn
  have hm : Looks (model P0 w) s.heap (mroOf (.ref 52)) (.ref 52 :: bm52) := (looks_clsIn (K := G.K) X (C := 52) rfl).andThen .now
  have L3 : Looks (model P0 w) s.heap (storeTaker? attr) none := by
    cases attr with
    | none => cases hr; exact .now
    | some a =>
      obtain ⟨b, hb, hb'⟩ := Option.map_eq_some_iff.mp hr
      refine (looks_takesIn X hb).andThen ?_
      cases b
      · exact .now
      · cases hb'
  rw [osa_eq, refuse_eq]
  refine wpAny_bind (wpAny_bind ((ty _).here (wpAny_bind (hm.here ?_))))
  rw [refuseLoop_ref, refuseLoop_ref, PySem.F.store_Exception.passes]
  refine wpAny_pure (wpAny_bind ((ty _).here (wpAny_bind ((looks_findIn X ha).here (wpAny_bind (L3.here ?_))))))
  exact q _
end
section
variable {G : Gl} {c : Cx} {F : Fm} {ω ω' : Wd} {m m₁ m' : List (PySem.Str × AV)} {σ σ₁ σ₂ σ₃ σ' τ : List AO} {e l r : Expr} {pos pos' : Pos} {v a b : AV} {st : Stmt} {ss : List Stmt} {fl : AF} {x : PySem.Str} {es : List Expr} {vs : List AV} {f : Value}
theorem excBool : (Value.bool false == Value.bool false) = true := by simp
theorem cl_excinit {j : Nat} {t d : Option Nat} (hσ : σ[j]? = some (.exc t d)) : Cl G 0 (.builtin "Exception.__init__") [.loc j, v] σ .none σ := fun c F ω m s args' hk S hv Q E p => by
  obtain ⟨a', b', rfl, ha, hb⟩ := hv.two
  replace ha := ha.m
  obtain ⟨x, rfl, hx⟩ := ha
  obtain ⟨o, ho, hr⟩ := S.atL hσ hx
  replace hr := hr.m
  obtain ⟨_, r1, r2, r3, r4, r5, r6, r7⟩ := hr
  rename_i fs
  have FE := PySem.F.excBase_Exception
  obtain ⟨hh, hg, hd, ht, hos⟩ := s
  refine wpAny_call (codeAny_call_builtin FE.init.plain FE.initEntry (check_init52 (at52 (K := G.K) S.KIn) ho r1 ?_))
  unfold Builtin.«BaseException.__init__»
  dsimp only
  rw [if_neg (by simp)]
  unfold newTuple Builtin.BaseException.bexcPut
  have he₁ := Heap.get?_push_of_some (h := hh) { cls := .type "tuple", data := .seq [b'].toArray } ho
  have h0 : fs[0]? = some fs[0] := Array.getElem?_eq_getElem (by omega)
  refine wpAny_bind (wpAny_newObj_type (wpAny_bind (wpAny_bind (wpAny_field he₁ r2 h0 (wpAny_bind (wpAny_setField he₁ r2 (by omega) ?_))))) (by show [b'].toArray.size ≤ sizeLine; rw [sizeLine_eq, List.size_toArray]; exact Nat.le_of_ble_eq_true rfl))
  have S₁ := S.grow (h' := hh.push { cls := .type "tuple", data := .seq [b'].toArray }) fun b o q => Heap.get?_push_of_some _ q
  have S₂ := S₁.upd hσ hx (Heap.SameBut.update _ x (Obj.mapFields (·.setIfInBounds 0 (.ref hh.objs.size)))) (Heap.get?_update_self _ he₁ (Obj.isFreed_of_fields (Obj.data_mapFields r2 _)))
    (.exc (t := t) (d := d) (by rw [Obj.cls_mapFields]; exact r1) (Obj.data_mapFields r2 _) (by rw [Array.size_setIfInBounds]; exact r3) (fun i q => by
        obtain ⟨a1, q1, q2⟩ := r4 i q
        exact ⟨a1, q1, by rw [Array.getElem?_setIfInBounds_ne (by decide)]; exact q2⟩) (fun q => by rw [Array.getElem?_setIfInBounds_ne (by decide)]; exact r5 q)
      (fun i q => by
        obtain ⟨a1, q1, q2⟩ := r6 i q
        exact ⟨a1, q1, (dict_mapFields o _).trans q2⟩) (fun q => (dict_mapFields o _).trans (r7 q)))
  have es : σ.set j (AO.exc t d) = σ := by
    apply List.ext_getElem?
    intro k
    by_cases hk : j = k
    · subst hk; rw [at_set_eq hσ, hσ]
    · rw [List.getElem?_set_ne hk]
  rw [es] at S₂
  have fin := p ω _ _ ht (.refl ω) S₂ .none
  split
  · exact wpAny_letGo (wpAny_pure fin)
  · exact wpAny_pure (wpAny_pure fin)
theorem dict_get {o : Obj} {h : Heap} {x : Addr} {D : Addr} (hx : h.get? x = some o) : (h.update x fun o => { o with dict := some D }).get? x = some { o with dict := some D } := by
  refine Heap.get?_update_self _ hx ?_
  have := get_notFreed hx
  obtain ⟨c, d, dt, sl⟩ := o
  cases dt <;> first | rfl | exact this
theorem sa_exc1 {i : Nat} {t : Option Nat} (hσ : σ[i]? = some (.exc t none)) (hn : takerIn G.K 52 x = some none) : Sa G σ (.loc i) x v (((σ ++ [AO.idict []]).set i (.exc t (some σ.length))).set σ.length (.idict [(x, v)])) := fun c F ω m s a' v' S ha hv Q E p => by
  replace ha := ha.m
  obtain ⟨y, rfl, hy⟩ := ha
  obtain ⟨o, ho, hr⟩ := S.atL hσ hy
  replace hr := hr.m
  obtain ⟨_, r1, r2, r3, r4, r5, r6, r7⟩ := hr
  rename_i fs
  obtain ⟨oc, od, odt, osl⟩ := o
  dsimp only at r1 r2 r6 r7
  obtain rfl := r7 rfl
  subst r1 r2
  have I : InstAt s.heap y ⟨.ref 52, none, .fields fs, osl⟩ 52 none := ⟨ho, rfl, rfl, trivial⟩
  refine set_plain (K := G.K) S.KIn I (by kernel_rfl!) (osa52 S.KIn (s := { s with toks := s.toks + 1 }) ho rfl hn fun b => ?_)
  have KI : G.K.In ({ s with toks := s.toks + 1 } : Shared).heap := S.KIn
  unfold storeInOwnDict
  refine wpAny_bind (wpAny_pure (wpAny_bind (wpAny_bind (wpAny_loadPart ho (wpAny_bind ((looks_clsIn (K := G.K) KI (C := 52) rfl).here ?_))))))
  obtain ⟨hh, hg, hd, ht, hos⟩ := s
  have hx₁ : (hh.push { cls := .type "dict", data := .dict #[] }).get? y = some ⟨.ref 52, none, .fields fs, osl⟩ := Heap.get?_push_of_some _ ho
  refine wpAny_bind (wpAny_alloc' ?_)
  refine wpAny_bind (wpAny_update' hx₁ ?_)
  refine wpAny_pure ?_
  show wpAny _ _ (storeInDict hh.objs.size (.str x ht) x v') _ _ _
  obtain ⟨S₁, e₁⟩ := S.pushed (o := { cls := .type "dict", data := .dict #[] }) (y := .idict []) rfl (.idict (ds := []) .nil)
  have lp := Wd.le_push ω hh.objs.size
  have S₂ := S₁.upd (at_old hσ) (lp.at hy) (Heap.SameBut.update ..) (dict_get hx₁) (.exc (t := t) (d := some σ.length) rfl rfl r3 (fun i q => let ⟨a1, q1, q2⟩ := r4 i q; ⟨a1, lp.at q1, q2⟩) r5 (fun i q => by cases q; exact ⟨_, e₁, rfl⟩) (fun q => by cases q))
  have hlt : i < σ.length := (List.getElem?_eq_some_iff.mp hσ).1
  have hi2 : ((σ ++ [AO.idict []]).set i (.exc t (some σ.length)))[σ.length]? = some (.idict []) := by
    rw [List.getElem?_set_ne (by omega)]; exact at_push rfl
  obtain ⟨oD, hD, hrD⟩ := S₂.atL hi2 e₁
  replace hrD := hrD.m
  obtain ⟨_, _, rfl, hen⟩ := hrD
  cases hen
  refine store_dictOf (n := _) hD rfl (by simp [PySem.W.putL]) fun h' hs' hD' => ?_
  exact p _ h' _ lp (S₂.upd hi2 e₁ hs' hD' (.idict (.cons (hv.mono lp) .nil)))
theorem sa_exc2 {i d : Nat} {t : Option Nat} {es : List (PySem.Str × AV)} (hσ : σ[i]? = some (.exc t (some d))) (hd : σ[d]? = some (.idict es)) (hz : es.length ≤ 900) (hn : takerIn G.K 52 x = some none) : Sa G σ (.loc i) x v (σ.set d (.idict (put x v es))) := fun c F ω m s a' v' S ha hv Q E p => by
  replace ha := ha.m
  obtain ⟨y, rfl, hy⟩ := ha
  obtain ⟨o, ho, hr⟩ := S.atL hσ hy
  replace hr := hr.m
  obtain ⟨_, r1, r2, r3, r4, r5, r6, r7⟩ := hr
  rename_i fs
  obtain ⟨dx, hdx, q2⟩ := r6 d rfl
  obtain ⟨oc, od, odt, osl⟩ := o
  dsimp only at r1 r2 r6 r7 q2
  subst r1 r2 q2
  obtain ⟨oD, hD, hrD⟩ := S.atL hd hdx
  have I : InstAt s.heap y ⟨.ref 52, some dx, .fields fs, osl⟩ 52 (some oD) := ⟨ho, rfl, rfl, hD⟩
  refine set_plain (K := G.K) S.KIn I (by kernel_rfl!) (osa52 S.KIn (s := { s with toks := s.toks + 1 }) ho rfl hn fun b => ?_)
  have KI : G.K.In ({ s with toks := s.toks + 1 } : Shared).heap := S.KIn
  unfold storeInOwnDict
  refine wpAny_bind (wpAny_pure (wpAny_bind (wpAny_bind (wpAny_loadPart ho (wpAny_bind ((looks_clsIn (K := G.K) KI (C := 52) rfl).here ?_))))))
  refine wpAny_pure ?_
  show wpAny _ _ (storeInDict dx (.str x s.toks) x v') _ _ _
  replace hrD := hrD.m
  obtain ⟨_, _, rfl, hen⟩ := hrD
  have hg : ∀ {es : List (PySem.Str × AV)} {ds : List DictEntry}, EnR G.w.params G.K ω es ds → (PySem.W.getL x ds).isSome = true := fun {es ds} hen => by
    cases q : lk x es with
    | none => rw [hen.getL0 q]; rfl
    | some u => obtain ⟨u', h1, _⟩ := hen.getL q; rw [h1]; rfl
  have hlen : ∀ {es : List (PySem.Str × AV)}, (put x v es).length ≤ es.length + 1 := by
    intro es
    induction es with
    | nil => simp [put]
    | cons q r ih =>
      obtain ⟨z, u⟩ := q
      simp only [put]
      split
      · simp
      · simp only [List.length_cons]; omega
  refine store_dictOf hD (hg hen) ?_ fun h' hs' hD' => ?_
  · have hput : EnR G.w.params G.K ω (put x v es) (PySem.W.putL x (PyData.keyHash G.w.params x) (.str x (s.toks + 1)) v' _) := hen.putL hv
    have h1 := hput.length
    have h2 := hlen (es := es)
    show (PySem.W.putL x (PyData.keyHash G.w.params x) (.str x (s.toks + 1)) v' _).length ≤ 1000
    omega
  · exact p ω h' _ (.refl ω) (S.upd hd hdx hs' hD' (.idict (hen.putL hv)))
end
end SM24
section SM25
section
variable {G : Gl} {c : Cx} {F : Fm} {ω ω' : Wd} {m m₁ m' : List (PySem.Str × AV)} {σ σ₁ σ₂ σ₃ σ' τ : List AO} {e l r : Expr} {pos pos' : Pos} {v a b : AV} {st : Stmt} {ss : List Stmt} {fl : AF} {x : PySem.Str} {es : List Expr} {vs : List AV} {f : Value}
/-- a method found on a class: no receiver goes along -/
noncomputable def Gm0 (G : Gl) (σ : List AO) (a : AV) (x : PySem.Str) (f : Value) : Prop :=
  ∀ c F ω m s a' pl, St G c F ω m σ s.heap → VR G.K ω a a' → ∀ (Q : Value × List Value → Shared → Prop) E, (∀ tk', Q (f, []) { s with toks := tk' }) → wpAny (model P0 G.w) F.A (getMethod a' x pl) Q E s
theorem gm_excinit : Gm0 G σ (.glob (.type "Exception")) "__init__" (.builtin "Exception.__init__") := fun c F ω m s a' pl S r Q E p => by
  cases r
  obtain ⟨M, Fh, hM⟩ := S.lo
  exact method_type (K := G.K) Fh S.X rfl (by decide +kernel) (by kernel_rfl!) (by rfl) (p _)
theorem ev_callm0 {k : Nat} {apos : Pos} (ho : Ev G c m σ e a σ₁) (hm : Gm0 G σ₁ a x f) (he : Evs G c m σ₁ es vs σ₂) (hk : KpV G f) (hc : Cl G k f vs σ₂ v σ') (hkc : k ≤ c.k := by decide) (hp : plainArgs es := by ked_read)
    (hline : (apos.endLine == pos.line) = true := by rfl) (hbase : ∀ env, attributeBase e x env (eval e env) = eval e env := by ked_read) (hlen : decide (es.length + 0 + 0 < 30) = true := by rfl) : Ev G c m σ (.Call (.Attribute e x apos) es [] pos) v σ' := fun F ω s S Q E p => by
  rw [arm_eval_Call, hbase]
  refine wpAny_bind (ho F ω s S _ E fun ω₁ a' h' tk' l1 S₁ ha => ?_)
  refine wpAny_bind (wpAny_standAt ?_)
  have hform : methodCallForm (es.length + ([] : List Keyword).length) (backTo pos (starEach es (ev c F))) (backToKw pos (keywordEach [] (ev c F))) = true := by
    have h1 : (backTo pos (starEach es (ev c F))).all (!·.1) = true := by rw [hp]; simp [backTo]
    unfold methodCallForm
    rw [h1]
    show (true && (true && decide (es.length + 0 + 0 < 30))) = true
    rw [hlen]; rfl
  have hpos : methodCallPos true e (ev c F) apos pos = pure pos := by unfold methodCallPos; simp [hline]
  unfold methodCall calleeOf
  rw [hform]
  refine wpAny_bind (wpAny_holding (hm c F ω₁ m _ a' _ S₁ ha _ E fun tk => ?_))
  have hpos2 : ∀ b, methodCallPos b e (ev c F) apos pos = pure pos := fun b => by unfold methodCallPos; cases b <;> simp [hline]
  refine wpAny_bind (wpAny_of_eq (hpos2 _) ?_)
  exact callWith_any (first := []) (first' := []) hp hk he hc hkc (s := { s with heap := h', toks := tk }) S₁ .nil (p.on l1)

theorem code_inD {k : Nat} {q : PySem.Str} {sf : Stmt} {dV pm cdv : Value} {xs : List PySem.Str} {dvs : List AV} {dws : List Value} (hdv : ∀ ω, VRs G.K ω dvs dws)
    {fa : Addr} (ho : G.K.lookup fa = some (fo sf q dV pm cdv)) (hcd : codeIn G.K cdv q = true)
    (hbind : ∀ s ws, G.K.In s.heap → ws.length = vs.length → BindsTo s (fdOf sf q dV pm cdv) ⟨ws, []⟩ (xs.zip (ws ++ dws)))
    (hloc : (xs.all fun x => (dScope sf).names.lookup x == some .local) = true) (hnd : xs.Nodup)
    (hbody : Sx G ⟨k, q, dScope sf, fa, cdv, [], none⟩ (xs.zip (vs ++ dvs)) σ (dBody sf) fl m' σ')
    (hcell : ((dScope sf).names.all fun x => x.2 != .cell) = true) (hco : (dScope sf).isCoroutine = false) (hgen : (dScope sf).isGenerator = false) (hk : (dScope sf).kind = .function)
    {s : Shared} {args' : List Value} {A : Around} (hle : k < c.k) (S : St G c F ω m σ s.heap) (hAf : A.frames = F.A.frames) (hAh : A.handled = F.A.handled) (hAd : A.depth + 4 * k + 1 ≤ 900) (hAu : A.units + 8 * k + 3 ≤ 9000) (hv : VRs G.K ω vs args') {R : Result → Shared → Prop}
    (p : ∀ ω' v' h' tk', ω.le ω' → St G c F ω' m σ' h' → VR G.K ω' (retOf fl) v' → R (.ok (.ret v')) { s with heap := h', toks := tk' }) :
    codeAny (model P0 G.w) A (.call (.ref fa) ⟨args', []⟩) R s := by
  obtain ⟨M, Fh, hM⟩ := S.lo
  obtain ⟨os, N, hl, rr⟩ := S.hp
  have hD := S.hD
  have hU := S.hU
  refine code_def (R := R) S.B Fh S.X N S.T (hAf.trans S.hA) rfl S.hK ho hcd (by show A.depth < 1000; omega) (hbind s args' (S.X.keeps Fh.keep) hv.length) (fun y hy => ?_) (fun g L' h₁ FG F' N' B' X' T' => ?_) hco hgen hk (fun y hy => by simpa using List.all_eq_true.mp hcell y hy)
  · have := List.all_eq_true.mp hloc y.1 (zip_mem_fst hy)
    simpa using this
  · refine hbody ⟨A, A.deeper (envOf q (dScope sf) L' fa cdv), F.base, envX c.cn c.cs F.L c.a c.ccd F.cl :: F.outer, g, L', [], 0, [], "", none⟩ ω _ ?_ _ _ ?_
    · exact
        { hA := by show (A.deeper _).frames = _; rw [show (A.deeper (envOf q (dScope sf) L' fa cdv)).frames = A.frames.map (envOf q (dScope sf) L' fa cdv :: ·) from rfl, hAf, S.hA]; rfl
          hH := hAh.trans S.hH
          hD := by show A.depth + 1 + 4 * k ≤ 900; omega
          hU := by show A.units + 3 + 8 * k ≤ 9000; omega
          hK := hk
          B := B', XB := S.XB, TB := S.TB, PB := S.PB, cel := trivial, blk := fun b hb => by cases hb
          lo := ⟨_, F', fun x v e => by
            rw [lookup_rev (zip_fst_nodup hnd)]
            exact (VRs.append (hdv ω) hv).zipLk e⟩
          hp := ⟨os, N', hl, rr⟩, nd := S.nd, gt := S.gt, t0 := S.t0 }
    · intro ω' fl' h' tk' hle' S' hf
      obtain ⟨M', F'', _⟩ := S'.lo
      obtain ⟨os', N'', hl', rr'⟩ := S'.hp
      exact leaveK_ F'' N'' fun Fb Nb => p ω' _ h' tk' hle' (S.back hle' hM Fb Nb hl' rr' S'.nd S'.gt) (by cases hf with | next => exact .none | cont => exact .none | ret h => exact h)


/-- the exception made -/
theorem cl_exc52 {k n : Nat} {y : PySem.Str} (hn : σ.length = n) 
    (hbody : Sx G ⟨k, "RowsError.__init__", dScope (inClass 2 0), 36, .ref 35, [], none⟩ [("self", .loc n), ("message", .str y), ("spot", .none)] (σ ++ [.exc none none]) (dBody (inClass 2 0)) fl m' σ') (hr : retOf fl = .none) :
    Cl G (k + 2) (.ref 52) [.str y] σ (.loc n) σ' := fun c F ω m s args' hle S hv Q E p => by
  subst hn
  have hvl := hv.length
  obtain ⟨hh, g, d, t, os⟩ := s
  have hD := S.hD
  have hU := S.hU
  refine call52 (G := G) S.KIn (fun h1 h2 e1 e2 => ?_) (by rw [hvl, sizeLine_eq]; exact Nat.le_of_ble_eq_true rfl)
  have S₁ : St G c F ω m σ h1 := S.grow fun b o q => by rw [e1]; exact Heap.get?_push_of_some _ q
  obtain ⟨S₂, e₂⟩ := S₁.pushed (o := { cls := .ref 52, data := .fields #[.ref hh.objs.size, .none, .none, .none, .bool false, .none] }) (y := .exc none none) rfl
    (.exc rfl rfl (by simp) (fun i q => by cases q) (fun _ => rfl) (fun i q => by cases q) (fun _ => rfl))
  rw [← e2] at S₂
  have lp := Wd.le_push ω h1.objs.size
  refine wpAny_call ?_
  refine code_inD (c := c) (F := F) (A := F.A.under (.builtin "type.__call__" ⟨.ref 52 :: args', []⟩)) (k := k) (vs := [AV.loc σ.length, .str y]) (xs := ["self", "message", "spot"]) (dvs := [.none]) (dws := [.none]) (s := ⟨h2, g, d, t, os⟩) (fun ω => .cons .none .nil) ho_RowsError_init ?_ ?_ ?_ ?_ hbody ?_ ?_ ?_ ?_ (by omega) S₂ ?_ rfl ?_ ?_ (.cons (.loc e₂) (hv.mono lp)) fun ω' v' h' tk' l1 S' hv' => ?_
  · kernel_rfl!
  · intro s ws X hl
    obtain ⟨a, b, q⟩ := len2 hl
    subst q
    refine binds_K X rfl (o := ⟨.type "tuple", none, .seq [.none].toArray 0, #[]⟩) (items := [.none].toArray) (n := 0) (by kernel_rfl!) rfl (by rfl) ?_
    rfl
  · kernel_rfl!
  · decide +kernel
  · kernel_rfl!
  · kernel_rfl!
  · kernel_rfl!
  · kernel_rfl!
  · show (F.A.under (Code.builtin "type.__call__" ⟨.ref 52 :: args', []⟩)).frames = F.A.frames
    have e : (F.A.under (Code.builtin "type.__call__" ⟨.ref 52 :: args', []⟩)).frames = pushEnvs (Code.builtin "type.__call__" ⟨.ref 52 :: args', []⟩).envs F.A.frames := rfl
    rw [e, show (Code.builtin "type.__call__" ⟨.ref 52 :: args', []⟩).envs = [] by kernel_rfl]
    cases F.A.frames <;> rfl
  · show F.A.depth + _ + 4 * k + 1 ≤ 900
    have : (Code.builtin "type.__call__" ⟨.ref 52 :: args', []⟩).weight ≤ 2 := Nat.le_of_ble_eq_true (by kernel_rfl)
    omega
  · show F.A.units + _ + 8 * k + 3 ≤ 9000
    have : (Code.builtin "type.__call__" ⟨.ref 52 :: args', []⟩).cUnits ≤ 4 := Nat.le_of_ble_eq_true (by kernel_rfl)
    omega
  · rw [hr] at hv'
    cases hv'
    exact ⟨rfl, p ω' _ h' tk' (lp.trans l1) S' (.loc (l1.at e₂))⟩
theorem s_raise {j : Nat} {d : Option Nat} (h : Ev G c m σ e (.loc j) σ₁) (hσ : σ₁[j]? = some (.exc none d)) : S1E G c m σ (.Raise (some e) none pos) false m σ₁ := fun F ω s S Q E p => by
  rw [arm_exec_Raise]
  refine wpAny_bind (wpAny_standAt ?_)
  simp only [evalOpt, Option.map]
  unfold raiseStmt
  refine wpAny_bind (wpAny_bind (h F ω s S _ E fun ω₁ a' h' tk' l1 S₁ ha => wpAny_bind (wpAny_standAt (wpAny_pure ?_))))
  replace ha := ha.m
  obtain ⟨y, rfl, hy⟩ := ha
  obtain ⟨o, ho, hr⟩ := S₁.atL hσ hy
  replace hr := hr.m
  obtain ⟨_, r1, r2, r3, r4, r5, r6, r7⟩ := hr
  have KI : G.K.In ({ s with heap := h', toks := tk' } : Shared).heap := S₁.KIn
  have t1 : Looks (model P0 G.w) h' (typeOf (.ref y)) (.ref 52) := r1 ▸ ((Looks.ld ho).andThen .now)
  have i1 : Looks (model P0 G.w) h' (isType (.ref y)) false := by
    refine (Looks.ld ho).andThen ?_
    rw [r2]; exact .now
  have i2 : Looks (model P0 G.w) h' (isInstance (.ref y) (.type "BaseException")) true := t1.andThen (looks_mroIn (K := G.K) KI (by kernel_rfl!))
  have t2 : Looks (model P0 G.w) h' (typeOf (.ref 52)) (.type "type") := (Looks.ld (KI 52 _ rfl)).andThen .now
  refine wpAny_bind (wpAny_pure ?_)
  refine wpAny_bind (wpAny_holding ?_)
  unfold excFromValue isExcClass
  refine wpAny_bind (wpAny_bind (i1.here ?_))
  rw [if_neg (by decide)]
  refine wpAny_pure ?_
  rw [if_neg (by decide)]
  refine wpAny_bind (i2.here ?_)
  rw [if_pos rfl]
  refine wpAny_pure ?_
  dsimp only
  refine wpAny_bind (i1.here ?_)
  rw [if_neg (by decide)]
  unfold raisedInstance
  refine wpAny_bind (wpAny_bind (t1.here (wpAny_bind (t2.here ?_))))
  rw [if_pos (by decide)]
  refine wpAny_pure ?_
  refine wpAny_bind ?_
  unfold setFlight
  refine wpAny_bind (wpAny_field ho r2 (r5 rfl) ?_)
  rw [if_neg (by decide)]
  refine wpAny_pure ?_
  refine wpAny_raiseNew_none S₁.hH ?_
  exact p F.h₀ ω₁ σ₁ j none y h' tk' (.refl _) l1 (.refl _) ⟨⟨d, hσ⟩, fun i q => by cases q⟩ (fun q => by cases q) S₁ hy
theorem op_isN_int {i : Int} : Op2 G (compareOp .Is) σ (.int i) .none (.bool false) σ := op_is_none fun ω a' h => by cases h; rfl
theorem op_isN_none : Op2 G (compareOp .Is) σ .none .none (.bool true) σ := op_is_none fun ω a' h => by cases h; rfl
theorem op_isN_loc {i : Nat} : Op2 G (compareOp .Is) σ (.loc i) .none (.bool false) σ := op_is_none fun ω a' h => by cases h; rfl
theorem op_isN_str {y : PySem.Str} : Op2 G (compareOp .Is) σ (.str y) .none (.bool false) σ := op_is_none fun ω a' h => by cases h; rfl
theorem op_isntN_int {i : Int} : Op2 G (compareOp .IsNot) σ (.int i) .none (.bool true) σ := op_isnot_none (x := false) fun ω a' h => by cases h; rfl
theorem op_isntN_none : Op2 G (compareOp .IsNot) σ .none .none (.bool false) σ := op_isnot_none (x := true) fun ω a' h => by cases h; rfl
theorem op_isntN_loc {i : Nat} : Op2 G (compareOp .IsNot) σ (.loc i) .none (.bool true) σ := op_isnot_none (x := false) fun ω a' h => by cases h; rfl
end
end SM25
section SM26
/-! zip of a text and a tuple -/
section
variable {prog : Program} {w : World} {A : Around} {E : Value → Shared → Prop} {s : Shared}
theorem nextOf_tuple_item {it t : Addr} {i : Nat} {items : Array Value} {x : Value} {Q : Value → Shared → Prop} (hit : s.heap.IsTupleIter it t i)
    (ht : s.heap.IsTuple t items) (hx : items[i]? = some x)
    (hQ : ∀ h', h'.IsTupleIter it t (i + 1) → Heap.SameBut it s.heap h' → Q x { s with heap := h' }) :
    wpAny (model prog w) A (Builtin.SmallTypes.nextOf (.ref it)) Q E s := by
  obtain ⟨o, ho, hc, hd⟩ := id hit
  obtain ⟨ol, hol, _, nl, hdl⟩ := ht
  unfold Builtin.SmallTypes.nextOf
  refine wpAny_bind (wpAny_callSpecial?_slot (name := Str.ofString "__next__") hit.typeIs PySem.F.slot_tuple_iterator_next
    (wpAny_call_entry PySem.F.slot_tuple_iterator_next hit.typeIs PySem.F.entry_tuple_iterator_next ?_ (PySem.F.args_tuple_iterator_next_1 _)))
  show wpAny _ _ (field (.ref it) 0 >>= _) _ _ s
  refine wpAny_bind (wpAny_field ho hd (x := .ref t) rfl ?_)
  show wpAny _ _ (if (Value.ref t == Value.none) = true then _ else _) _ _ s
  rw [if_neg (show ¬ ((Value.ref t == Value.none) = true) from Bool.false_ne_true)]
  show wpAny _ _ (field (.ref it) 1 >>= _) _ _ s
  refine wpAny_bind (wpAny_field ho hd (x := .int i 0) rfl ?_)
  show wpAny _ _ (seqItems? (.ref t) >>= _) _ _ s
  refine wpAny_bind (wpAny_seqItems hol hdl ?_)
  simp only [Int.toNat_natCast, hx]
  refine wpAny_bind (wpAny_setField ho hd (by simp) (wpAny_pure ⟨x, rfl, wpAny_pure (hQ _ ?_ (Heap.SameBut.update ..))⟩))
  exact ⟨_, Heap.get?_update_self _ ho (Obj.isFreed_of_fields (Obj.data_mapFields hd _)), (Obj.cls_mapFields ..).trans hc, by
    rw [Obj.data_mapFields hd]; simp [rawInt]⟩
noncomputable abbrev zh1 (h : Heap) (x : PySem.Str) (t : Tok) : Heap := h.push { cls := .type "str_ascii_iterator", data := .fields #[.str x t, .int 0 0] }
noncomputable abbrev zh2 (h : Heap) (x : PySem.Str) (t : Tok) (l2 : Addr) : Heap := (zh1 h x t).push { cls := .type "tuple_iterator", data := .fields #[.ref l2, .int 0 0] }
noncomputable abbrev zh3 (h : Heap) (x : PySem.Str) (t : Tok) (l2 : Addr) : Heap := (zh2 h x t l2).push { cls := .type "tuple", data := .seq #[.ref h.objs.size, .ref (zh1 h x t).objs.size] }
noncomputable abbrev zh4 (h : Heap) (x : PySem.Str) (t : Tok) (l2 : Addr) : Heap := (zh3 h x t l2).push { cls := .type "tuple", data := .seq #[.none, .none] }
noncomputable abbrev zh5 (h : Heap) (x : PySem.Str) (t : Tok) (l2 : Addr) : Heap := (zh4 h x t l2).push { cls := .type "zip", data := .fields #[.none, .bool false, .bool false, .ref (zh2 h x t l2).objs.size, .ref (zh3 h x t l2).objs.size] }
set_option maxHeartbeats 4000000 in
theorem zip_make (x : PySem.Str) (t : Tok) (l2 : Addr) (ys : Array Value) (ha : x.cps.all (· < 128) = true) :
    Meets (Builtin.«zip.__new__» ⟨[.type "zip", .str x t, .ref l2], []⟩) (fun _ R s => s.heap.IsTuple l2 ys ∧
      R (.ok (.ret (.ref (zh4 s.heap x t l2).objs.size))) { s with heap := zh5 s.heap x t l2 }) :=
  .of_wp fun prog w A R s h => by
    obtain ⟨hp, g, d, tk, os⟩ := s; obtain ⟨hl2, h⟩ := h
    have hsub := sub_zip
    have hL2 : Heap.IsTuple (Shared.heap ⟨hp.push { cls := .type "str_ascii_iterator", data := .fields #[.str x t, .int 0 0] }, g, d, tk, os⟩) l2 ys := Heap.IsTuple.push hl2 _
    wp_walk using wpAny_pyIter_ascii ha, wpAny_pyIter_tuple hL2
    exact ⟨_, rfl, h⟩
end
section
variable {G : Gl} {c : Cx} {F : Fm} {ω ω' : Wd} {m m₁ m' : List (PySem.Str × AV)} {σ σ₁ σ₂ σ₃ σ' τ : List AO} {e l r tg : Expr} {pos pos' : Pos} {v a b : AV} {st : Stmt} {ss : List Stmt} {fl : AF} {x : PySem.Str} {es : List Expr} {vs : List AV} {f : Value}
theorem cl_zip {n : Nat} (hn : σ.length = n) (ha : x.cps.all (· < 128) = true) : Cl G 0 (.type "zip") [.str x, .tup vs] σ (.loc (n + 3)) (σ ++ [.sit x 0] ++ [.tit vs 0] ++ [.own] ++ [.zip (.tup [.loc n, .loc (n + 1)]) (n + 2)]) := fun c F ω m s args' hk S hv Q E p => by
  subst hn
  obtain ⟨a', b', rfl, ra, rb⟩ := hv.two
  replace ra := ra.m
  obtain ⟨t, rfl⟩ := ra
  obtain ⟨y, ws, n, rfl, ht, hw⟩ := S.tup rb
  refine callType_new PySem.F.called_zip (by decide) (PySem.F.typeCall_zip_2 _ _) (PySem.F.newCall_zip_2 _ _) (fun obj => PySem.F.args_object_init_3 obj _ _) PySem.F.entry_zip_new (zip_make x t y ws.toArray ha) ⟨⟨_, ht, rfl, n, rfl⟩, ?_⟩
  obtain ⟨hh, g, d, tk, os⟩ := s
  have e1 : (zh1 hh x t).objs.size = hh.objs.size + 1 := Heap.size_push ..
  have e2 : (zh2 hh x t y).objs.size = hh.objs.size + 2 := by rw [Heap.size_push, e1]
  have e3 : (zh3 hh x t y).objs.size = hh.objs.size + 3 := by rw [Heap.size_push, e2]
  have e4 : (zh4 hh x t y).objs.size = hh.objs.size + 4 := by rw [Heap.size_push, e3]
  obtain ⟨S1, q1⟩ := S.pushed (o := { cls := .type "str_ascii_iterator", data := .fields #[.str x t, .int 0 0] }) (y := .sit x 0) rfl (.sit rfl rfl)
  have l1 := Wd.le_push ω hh.objs.size
  obtain ⟨S2, q2⟩ := S1.pushed (o := { cls := .type "tuple_iterator", data := .fields #[.ref y, .int 0 0] }) (y := .tit vs 0) rfl (.tit (rb.mono (l1.trans (Wd.le_push _ _))) rfl rfl)
  have l2 := Wd.le_push (ω.push hh.objs.size) (zh1 hh x t).objs.size
  have S3 := S2.pushedT (o := tupO [.ref hh.objs.size, .ref (zh1 hh x t).objs.size] 0) rfl
  have l3 := Wd.le_pushT ((ω.push hh.objs.size).push (zh1 hh x t).objs.size) (zh2 hh x t y).objs.size (tupO [.ref hh.objs.size, .ref (zh1 hh x t).objs.size] 0)
  obtain ⟨S4, q4⟩ := S3.pushed (o := { cls := .type "tuple", data := .seq #[.none, .none] }) (y := .own) rfl .own
  have l4 := Wd.le_push (((ω.push hh.objs.size).push (zh1 hh x t).objs.size).pushT (zh2 hh x t y).objs.size (tupO [.ref hh.objs.size, .ref (zh1 hh x t).objs.size] 0)) (zh3 hh x t y).objs.size
  have hl1 : (σ ++ [AO.sit x 0]).length = σ.length + 1 := by simp
  have hl2 : (σ ++ [AO.sit x 0] ++ [AO.tit vs 0]).length = σ.length + 2 := by simp
  have hl3 : (σ ++ [AO.sit x 0] ++ [AO.tit vs 0] ++ [AO.own]).length = σ.length + 3 := by simp
  rw [hl1] at q2
  rw [hl2] at q4
  obtain ⟨S5, q5⟩ := S4.pushed (o := { cls := .type "zip", dict := none, data := .fields #[.none, .bool false, .bool false, .ref (zh2 hh x t y).objs.size, .ref (zh3 hh x t y).objs.size], slots := #[] }) (y := .zip (.tup [.loc σ.length, .loc (σ.length + 1)]) (σ.length + 2)) rfl
    (.zip (.tup (n := 0) (ws := [.ref hh.objs.size, .ref (zh1 hh x t).objs.size]) (.head _) (.cons (.loc ((Wd.le_push _ _).at (l4.at (l3.at (l2.at q1))))) (.cons (.loc ((Wd.le_push _ _).at (l4.at (l3.at q2)))) .nil))) ((Wd.le_push _ _).at q4))
  rw [hl3] at q5
  have fin := p _ _ (zh5 hh x t y) tk ((((l1.trans l2).trans l3).trans l4).trans (Wd.le_push _ _)) S5 (.loc q5)
  have g5 : (zh5 hh x t y).get? (zh4 hh x t y).objs.size = some _ := Heap.get?_push_size _ rfl
  exact ⟨⟨_, g5, rfl⟩, fin⟩
end
end SM26
section SM27
section
variable {G : Gl} {c : Cx} {F : Fm} {ω ω' : Wd} {m m₁ m' : List (PySem.Str × AV)} {σ σ₁ σ₂ σ₃ σ' τ : List AO} {e l r tg : Expr} {pos pos' : Pos} {v a b : AV} {st : Stmt} {ss : List Stmt} {fl : AF} {x : PySem.Str} {es : List Expr} {vs : List AV} {f : Value} {w : AV}
theorem St.zip {h : Heap} (S : St G c F ω m σ h) {z to : Nat} (hz : σ[z]? = some (.zip w to)) {a' : Value} (ha : VR G.K ω (.loc z) a') :
    ∃ y W T, a' = .ref y ∧ ω.as[z]? = some y ∧ ω.as[to]? = some T ∧ VR G.K ω w W ∧ h.get? y = some { cls := .type "zip", dict := none, data := .fields #[.none, .bool false, .bool false, W, .ref T], slots := #[] } := by
  replace ha := ha.m
  obtain ⟨_, rfl, ha⟩ := ha
  obtain ⟨o, ho, hr⟩ := S.atL hz ha
  replace hr := hr.m
  obtain ⟨_, _, h1, h2, rfl⟩ := hr
  exact ⟨_, _, _, rfl, ha, h2, h1, ho⟩
theorem pi_zip {z to : Nat} (hz : σ[z]? = some (.zip w to)) : Pi G σ (.loc z) (.loc z) σ := fun c F ω m s a' S hv Q E p => by
  obtain ⟨y, W, T, rfl, hy, hT, hW, ho⟩ := S.zip hz hv
  have hT : s.TypeIs (.ref y) "zip" := ⟨_, ho, rfl⟩
  refine wpAny_pyIter_slot hT PySem.F.slot_zip_iter (wpAny_call_entry PySem.F.slot_zip_iter hT PySem.F.entry_zip_iter ?_ (PySem.F.args_zip_iter_1 _))
  show wpAny _ _ (ret (.ref y)) _ _ s
  exact wpAny_pure ⟨_, rfl, "zip", _, hT, PySem.F.slot_zip_next.lookup, p.here S hv⟩
noncomputable abbrev zO (f0 : Value) (TI TO : Addr) : Obj := { cls := .type "zip", dict := none, data := .fields #[f0, .bool false, .bool false, .ref TI, .ref TO], slots := #[] }
theorem set_same {l : List AO} {i : Nat} {x : AO} (h : l[i]? = some x) : l.set i x = l := by
  apply List.ext_getElem?
  intro k
  by_cases hk : i = k
  · subst hk; rw [at_set_eq h, h]
  · rw [List.getElem?_set_ne hk]
theorem dr_zip {z to i1 i2 k n : Nat} {y : PySem.Str} {ch : Nat} {tgs : List Expr} (hz : σ[z]? = some (.zip (.tup [.loc i1, .loc i2]) to)) (h1 : σ[i1]? = some (.sit y k)) (h2 : σ[i2]? = some (.tit vs k)) (ho : σ[to]? = some .own)
    (hx : y.cps[k]? = some ch) (hv : vs[k]? = some v) (ha : As G c m ((σ.set i1 (.sit y (k + 1))).set i2 (.tit vs (k + 1))) (.Tuple tgs n pos) (.tup [.str ⟨#[ch]⟩, v]) m' σ') :
    Dr G c m σ (.Tuple tgs n pos) (.loc z) m' σ' := fun F ω s it' S hit Q E p => by
  obtain ⟨zA, W, TO, rfl, hzA, hTO, hW, hoz⟩ := S.zip hz hit
  have ne : ∀ {i j : Nat} {x y : AO}, σ[i]? = some x → σ[j]? = some y → x ≠ y → i ≠ j := fun {i j x y} a b n q => by
    rw [q, b] at a; exact n (Option.some.inj a).symm
  have nz1 : z ≠ i1 := ne hz h1 (fun q => by cases q)
  have nz2 : z ≠ i2 := ne hz h2 (fun q => by cases q)
  have nzo : z ≠ to := ne hz ho (fun q => by cases q)
  have n12 : i1 ≠ i2 := ne h1 h2 (fun q => by cases q)
  have n1o : i1 ≠ to := ne h1 ho (fun q => by cases q)
  have n2o : i2 ≠ to := ne h2 ho (fun q => by cases q)
  have hT : s.TypeIs (.ref zA) "zip" := ⟨_, hoz, rfl⟩
  -- the iterators
  obtain ⟨TI, tws, tn, rfl, hTI, hws⟩ := St.tup (s := s) S hW
  obtain ⟨w1, w2, rfl, r1, r2⟩ := hws.two
  replace r1 := r1.m
  obtain ⟨a1, rfl, ha1⟩ := r1
  replace r2 := r2.m
  obtain ⟨a2, rfl, ha2⟩ := r2
  have hTO' := S.atL ho hTO
  refine wpAny_mono (Q := fun r s₁ => ∃ (T : Addr) (h₁ : Heap) (tk₁ : Nat), r = some (.ref T) ∧ s₁ = { s with heap := h₁, toks := tk₁ } ∧ ∃ ω₁, ω.le ω₁ ∧ St G c F ω₁ m (((σ.set z (.raw { cls := .type "zip", dict := none, data := .fields #[rawInt T, .bool false, .bool false, .ref TI, .ref TO], slots := #[] })).set i1 (.sit y (k + 1))).set i2 (.tit vs (k + 1))) h₁ ∧
      VR G.K ω₁ (.tup [.str ⟨#[ch]⟩, v]) (.ref T)) (E := E) ?_ (fun r s₁ q => ?_) fun _ _ q => q
  · unfold pyNext
    refine wpAny_bind (wpAny_attempt (wpAny_callSpecial?_slot (name := PySem.Str.ofString "__next__") hT PySem.F.slot_zip_next
      (wpAny_call_entry PySem.F.slot_zip_next hT PySem.F.entry_zip_next ?_ (PySem.F.args_zip_next_1 _))))
    show wpAny _ _ (field (.ref zA) 2 >>= _) _ _ _
    refine wpAny_bind (wpAny_field hoz rfl (x := .bool false) rfl ?_)
    show wpAny _ _ (field (.ref zA) 3 >>= _) _ _ _
    refine wpAny_bind (wpAny_field hoz rfl (x := .ref TI) rfl ?_)
    refine wpAny_bind (wpAny_seqItems hTI rfl ?_)
    show wpAny _ _ (Builtin.SmallTypes.ownedTupleIsFree (.ref zA) >>= _) _ _ _
    refine wpAny_bind ?_
    unfold Builtin.SmallTypes.ownedTupleIsFree
    refine wpAny_bind (wpAny_field hoz rfl (x := .none) rfl (wpAny_pure ?_))
    simp only [if_true]
    refine wpAny_bind (wpAny_rule ?_)
    refine wpAny_bind (wpAny_field hoz rfl (x := .ref TO) rfl ?_)
    refine wpAny_bind (wpAny_setField_rec hoz (by simp) fun hA hzA₁ hsA => ?_)
    replace hzA₁ : hA.get? zA = some (zO .ellipsis TI TO) := hzA₁
    have S1 := S.upd (y := .raw (zO .ellipsis TI TO)) hz hzA hsA hzA₁ (.raw rfl)
    refine wpAny_bind ?_
    simp only [List.zipIdx_cons, List.zipIdx_nil, List.forIn_cons, List.forIn_nil]
    refine wpAny_bind (wpAny_bind (wpAny_onRaise ?_))
    show wpAny _ _ (Builtin.SmallTypes.nextOf (.ref a1) >>= _) _ _ _
    have kz := at_set_eq (x := .raw (zO .ellipsis TI TO)) hz
    have k1 := at_set_ne (x := .raw (zO .ellipsis TI TO)) nz1 h1
    have k2 := at_set_ne (x := .raw (zO .ellipsis TI TO)) nz2 h2
    have ko := at_set_ne (x := .raw (zO .ellipsis TI TO)) nzo ho
    obtain ⟨o1, ho1, hr1⟩ := S1.atL k1 ha1
    replace hr1 := hr1.m
    obtain ⟨_, c1, d1⟩ := hr1
    refine wpAny_bind (wpAny_nextOf_ascii_item ⟨o1, ho1, c1, d1⟩ hx fun h₂ hi₂ hs₂ => wpAny_pure ?_)
    obtain ⟨o1', ho1', c1', d1'⟩ := hi₂
    have S2 := S1.upd (y := .sit y (k + 1)) k1 ha1 hs₂ ho1' (.sit c1' d1')
    have kz2 := at_set_ne (x := AO.sit y (k + 1)) nz1.symm kz
    have ko2 := at_set_ne (x := AO.sit y (k + 1)) n1o ko
    have k22 := at_set_ne (x := AO.sit y (k + 1)) n12 k2
    obtain ⟨oo, hoo, hro⟩ := S2.atL ko2 hTO
    replace hro := hro.m
    obtain ⟨_, _, rfl⟩ := hro
    rename_i u1 u2
    refine wpAny_bind (wpAny_seqItems hoo rfl ?_)
    refine wpAny_bind (wpAny_updateSeq_pair (a := u1) (b := u2) hoo fun h₃ hTO₃ hs₃ => ?_)
    replace hTO₃ : IsPair h₃ TO (.str ⟨#[ch]⟩ s.toks) u2 := hTO₃
    have S3 := S2.upd (y := .own) ko2 hTO hs₃ hTO₃ .own
    rw [set_same ko2] at S3
    refine wpAny_bind (wpAny_letGo (wpAny_pure ?_))
    refine wpAny_bind (wpAny_bind (wpAny_onRaise ?_))
    show wpAny _ _ (Builtin.SmallTypes.nextOf (.ref a2) >>= _) _ _ _
    obtain ⟨o2, ho2, hr2⟩ := S3.atL k22 ha2
    replace hr2 := hr2.m
    obtain ⟨_, rv, c2, d2⟩ := hr2
    obtain ⟨tt, tws, tn2, rfl, htt, htw⟩ := St.tup (s := { s with heap := h₃ }) S3 rv
    obtain ⟨v', hv', hrv⟩ := htw.get hv
    refine wpAny_bind (nextOf_tuple_item ⟨o2, ho2, c2, d2⟩ ⟨_, htt, rfl, tn2, rfl⟩ (by simpa using hv') fun h₄ hi₄ hs₄ => wpAny_pure ?_)
    obtain ⟨o2', ho2', c2', d2'⟩ := hi₄
    have S4 := S3.upd (y := .tit vs (k + 1)) k22 ha2 hs₄ ho2' (.tit rv c2' d2')
    have kz4 := at_set_ne (x := AO.tit vs (k + 1)) nz2.symm kz2
    have ko4 := at_set_ne (x := AO.tit vs (k + 1)) n2o ko2
    have hTO₄ : IsPair h₄ TO (.str ⟨#[ch]⟩ s.toks) u2 := hs₄.extBut _ _ (fun q => n2o (S3.inj k22 rfl ha2 ko2 rfl (q ▸ hTO))) hTO₃
    refine wpAny_bind (wpAny_seqItems hTO₄ rfl ?_)
    refine wpAny_bind (wpAny_updateSeq_pair (a := .str ⟨#[ch]⟩ s.toks) (b := u2) hTO₄ fun h₅ hTO₅ hs₅ => ?_)
    replace hTO₅ : IsPair h₅ TO (.str ⟨#[ch]⟩ s.toks) v' := hTO₅
    have S5 := S4.upd (y := .own) ko4 hTO hs₅ hTO₅ .own
    rw [set_same ko4] at S5
    refine wpAny_bind (wpAny_letGo (wpAny_pure (wpAny_pure ?_)))
    refine wpAny_bind (wpAny_seqItems hTO₅ rfl ?_)
    refine wpAny_bind (wpAny_newTuple ?_)
    have S6 := S5.pushedT (o := tupO [.str ⟨#[ch]⟩ s.toks, v'] 0) rfl
    have l6 := Wd.le_pushT ω h₅.objs.size (tupO [.str ⟨#[ch]⟩ s.toks, v'] 0)
    obtain ⟨oz6, hoz6, hrz6⟩ := S6.atL kz4 (l6.at hzA)
    replace hrz6 := hrz6.m
    obtain ⟨rfl, _⟩ := hrz6
    show wpAny _ _ (Builtin.SmallTypes.ownedTupleHandOut (.ref zA) (.ref h₅.objs.size) >>= _) _ _ _
    refine wpAny_bind ?_
    unfold Builtin.SmallTypes.ownedTupleHandOut
    refine wpAny_bind (wpAny_setField_rec hoz6 (by simp) fun h₇ hz₇ hs₇ => ?_)
    replace hz₇ : h₇.get? zA = some (zO (rawInt h₅.objs.size) TI TO) := hz₇
    refine wpAny_setField_rec hz₇ (by simp) fun h₈ hz₈ hs₈ => ?_
    replace hz₈ : h₈.get? zA = some (zO (rawInt h₅.objs.size) TI TO) := hz₈
    have S7 := S6.upd (y := .raw (zO (rawInt h₅.objs.size) TI TO)) kz4 (l6.at hzA) hs₇ hz₇ (.raw rfl)
    have kz7 := at_set_eq (x := .raw (zO (rawInt h₅.objs.size) TI TO)) kz4
    have S8 := S7.upd (y := .raw (zO (rawInt h₅.objs.size) TI TO)) kz7 (l6.at hzA) hs₈ hz₈ (.raw rfl)
    rw [set_same kz7] at S8
    refine wpAny_pure ⟨_, rfl, ?_⟩
    refine wpAny_pure ⟨h₅.objs.size, h₈, _, rfl, rfl, _, l6, ?_, .tup (n := 0) (.head _) (.cons (.str _ _) (.cons (hrv.mono l6) .nil))⟩
    rw [List.set_comm _ _ nz2.symm, List.set_comm _ _ nz1.symm, List.set_set] at S8
    exact S8
  · obtain ⟨T, h₁, tk₁, rfl, rfl, ω₁, l1, S1, hr⟩ := q
    show wpAny _ _ (letOwnedTupleGo (.Tuple tgs n pos) (.ref zA) (.ref T)) _ _ _
    have kz : (((σ.set z (.raw (zO (rawInt T) TI TO))).set i1 (.sit y (k + 1))).set i2 (.tit vs (k + 1)))[z]? = some (.raw (zO (rawInt T) TI TO)) := at_set_ne nz2.symm (at_set_ne nz1.symm (at_set_eq hz))
    obtain ⟨oz, hoz, hrz⟩ := S1.atL kz (l1.at hzA)
    replace hrz := hrz.m
    obtain ⟨rfl, _⟩ := hrz
    refine wpAny_letOwnedTupleGo_zip (s := { s with heap := h₁, toks := tk₁ }) hoz fun h₂ hz₂ hs₂ => ?_
    have S2 := S1.upd (y := .zip (.tup [.loc i1, .loc i2]) to) kz (l1.at hzA) hs₂ hz₂ (.zip (hW.mono l1) (l1.at hTO))
    have e : ((((σ.set z (.raw (zO (rawInt T) TI TO))).set i1 (.sit y (k + 1))).set i2 (.tit vs (k + 1))).set z (.zip (.tup [.loc i1, .loc i2]) to)) = (σ.set i1 (.sit y (k + 1))).set i2 (.tit vs (k + 1)) := by
      rw [List.set_comm _ _ nz2.symm, List.set_comm _ _ nz1.symm, List.set_set, set_same hz]
    rw [e] at S2
    exact ha F ω₁ { s with heap := h₂, toks := tk₁ } (.ref T) S2 hr Q E fun ω' h' tk' l S' => p ω' h' tk' (l1.trans l) S'
theorem nd_zip {z to i1 i2 k : Nat} {y : PySem.Str} (hz : σ[z]? = some (.zip (.tup [.loc i1, .loc i2]) to)) (h1 : σ[i1]? = some (.sit y k)) (hx : y.cps[k]? = none) : Nd G σ (.loc z) ((σ.set z .dead).set i1 .dead) := fun c F ω m s it' S hit Q E p => by
  obtain ⟨zA, W, TO, rfl, hzA, hTO, hW, hoz⟩ := S.zip hz hit
  have nz1 : z ≠ i1 := fun q => by rw [q, h1] at hz; cases hz
  have hT : s.TypeIs (.ref zA) "zip" := ⟨_, hoz, rfl⟩
  obtain ⟨TI, tws, tn, rfl, hTI, hws⟩ := St.tup (s := s) S hW
  obtain ⟨w1, w2, rfl, r1, r2⟩ := hws.two
  replace r1 := r1.m
  obtain ⟨a1, rfl, ha1⟩ := r1
  unfold pyNext
  refine wpAny_bind (wpAny_attempt (wpAny_callSpecial?_slot (name := PySem.Str.ofString "__next__") hT PySem.F.slot_zip_next
    (wpAny_call_entry PySem.F.slot_zip_next hT PySem.F.entry_zip_next ?_ (PySem.F.args_zip_next_1 _))))
  show wpAny _ _ (field (.ref zA) 2 >>= _) _ _ _
  refine wpAny_bind (wpAny_field hoz rfl (x := .bool false) rfl ?_)
  show wpAny _ _ (field (.ref zA) 3 >>= _) _ _ _
  refine wpAny_bind (wpAny_field hoz rfl (x := .ref TI) rfl ?_)
  refine wpAny_bind (wpAny_seqItems hTI rfl ?_)
  show wpAny _ _ (Builtin.SmallTypes.ownedTupleIsFree (.ref zA) >>= _) _ _ _
  refine wpAny_bind ?_
  unfold Builtin.SmallTypes.ownedTupleIsFree
  refine wpAny_bind (wpAny_field hoz rfl (x := .none) rfl (wpAny_pure ?_))
  simp only [if_true]
  refine wpAny_bind (wpAny_rule ?_)
  refine wpAny_bind (wpAny_field hoz rfl (x := .ref TO) rfl ?_)
  refine wpAny_bind (wpAny_setField_rec hoz (by simp) fun hA hzA₁ hsA => ?_)
  replace hzA₁ : hA.get? zA = some (zO .ellipsis TI TO) := hzA₁
  have S1 := S.upd (y := .raw (zO .ellipsis TI TO)) hz hzA hsA hzA₁ (.raw rfl)
  refine wpAny_bind ?_
  simp only [List.zipIdx_cons, List.zipIdx_nil, List.forIn_cons, List.forIn_nil]
  refine wpAny_bind (wpAny_bind (wpAny_onRaise ?_))
  show wpAny _ _ (Builtin.SmallTypes.nextOf (.ref a1) >>= _) _ _ _
  have kz := at_set_eq (x := .raw (zO .ellipsis TI TO)) hz
  have k1 := at_set_ne (x := .raw (zO .ellipsis TI TO)) nz1 h1
  obtain ⟨o1, ho1, hr1⟩ := S1.atL k1 ha1
  have a1z : zA ≠ a1 := fun q => nz1 (S1.inj kz rfl hzA k1 rfl (q ▸ ha1))
  replace hr1 := hr1.m
  obtain ⟨_, c1, d1⟩ := hr1
  refine wpAny_bind (wpAny_nextOf_ascii_end (by first | exact S.hH | rfl) ⟨o1, ho1, c1, d1⟩ hx fun h₂ e hs₂ he => ?_)
  obtain ⟨oe, hoe, hce⟩ := he
  have hz₂ : h₂.get? zA = some (zO .ellipsis TI TO) := hs₂ _ _ a1z hzA₁
  have hez : e ≠ zA := fun x => by subst x; rw [hz₂] at hoe; cases hoe; simp at hce
  refine wpAny_setField_rec hz₂ (by simp) fun h₃ _ hs₃ => ?_
  refine wpAny_bind (wpAny_isInstance (T := "StopIteration") (b := true) ⟨oe, hs₃.extBut _ _ hez hoe, hce⟩ isSubtype_stop ?_)
  have S2 := S1.kill (h' := h₂) k1 ha1 fun b o hb q => hs₂ b o hb q
  have S3 := S2.kill (h' := h₃) (at_set_ne nz1.symm kz) hzA fun b o hb q => hs₃.extBut b o hb q
  rw [List.set_comm _ _ nz1.symm, List.set_set] at S3
  exact wpAny_pure (p ω h₃ s.toks (.refl ω) S3)
end
end SM27
section SM28
section
variable {prog : Program} {w : World} {A : Around} {E : Value → Shared → Prop} {s : Shared}
theorem adjust_butLast (n : Nat) : Builtin.Slice.sliceAdjust none (some (-1)) 1 ((n + 1 : Nat) : Int) = (0, (n : Int)) := by
  unfold Builtin.Slice.sliceAdjust
  have h1 : ¬ ((1 : Int) < 0) := by omega
  have h2 : ((-1 : Int) < 0) := by omega
  simp only [h1, h2, if_false, if_true]
  congr 1
  omega
theorem places_butLast (n : Nat) : Builtin.Slice.slicePlaces 0 (n : Int) 1 = n := by
  unfold Builtin.Slice.slicePlaces
  have h1 : (1 : Int) > 0 := by omega
  simp only [h1, if_true, Int.ediv_one]
  split <;> omega
theorem sliceApplied_butLast {sl : Addr} {n : Nat} {u : Tok} {Q : Int × Int × Nat → Shared → Prop} (hs : s.heap.IsSliceOf sl .none (.int (-1) u) .none) (h : Q (0, 1, n) s) :
    wpAny (model prog w) A (Builtin.Slice.sliceApplied (.ref sl) (pure ((n + 1 : Nat) : Int))) Q E s := by
  obtain ⟨os, hos, hcs, hds⟩ := id hs
  unfold Builtin.Slice.sliceApplied Builtin.Slice.sliceFields
  refine wpAny_bind (wpAny_bind (wpAny_field hos hds (x := .none) rfl (wpAny_bind (wpAny_field hos hds (x := .int (-1) u) rfl (wpAny_bind (wpAny_field hos hds (x := .none) rfl (wpAny_pure ?_)))))))
  refine wpAny_bind (slicePart_none ?_)
  show wpAny _ _ (if ((1 : Int) == 0) = true then _ else _) _ _ s
  rw [if_neg (by decide)]
  refine wpAny_bind (slicePart_none (wpAny_bind (slicePart_int (wpAny_bind (wpAny_pure ?_)))))
  show wpAny _ _ (match Builtin.Slice.sliceAdjust none (some (-1)) 1 ((n + 1 : Nat) : Int) with | (lo, hi) => pure (lo, (1 : Int), Builtin.Slice.slicePlaces lo hi 1)) _ _ s
  rw [adjust_butLast n]
  show wpAny _ _ (pure ((0 : Int), (1 : Int), Builtin.Slice.slicePlaces 0 (n : Int) 1)) _ _ s
  rw [places_butLast n]
  exact wpAny_pure h
theorem pick_butLast (xs : List Value) (n : Nat) (hn : n ≤ xs.length) : ((List.range n).filterMap fun (k : Nat) => xs.toArray[((0 : Int) + (k : Int) * 1).toNat]?).toArray = (xs.take n).toArray := by
  have e : (fun (k : Nat) => xs.toArray[((0 : Int) + (k : Int) * 1).toNat]?) = fun k => xs.toArray[0 + k]? := by
    funext k
    have : ((0 : Int) + (k : Int) * 1).toNat = 0 + k := by omega
    rw [this]
  rw [e]
  have := pick_run xs.toArray 0 n
  rw [List.filterMap_map] at this
  have e2 : ((fun x => xs.toArray[x]?) ∘ fun x => 0 + x) = fun k => xs.toArray[0 + k]? := rfl
  rw [e2] at this
  rw [this, List.drop_zero]
theorem getItem_tuple_butLast {t sl : Addr} {xs : List Value} {n : Nat} {u : Tok} {Q : Value → Shared → Prop} (ht : IsTup s.heap t xs.toArray) (hn : xs.length = n + 1) (hs : s.heap.IsSliceOf sl .none (.int (-1) u) .none)
    (h : Q (.ref s.heap.objs.size) { s with heap := s.heap.push { cls := .type "tuple", data := .seq (xs.take n).toArray } })
    (hsz : n ≤ 900) : wpAny (model prog w) A (getItem (.ref t) (.ref sl)) Q E s := by
  have hdrop : sizeOk (.seq (xs.take n).toArray) := by
    show (xs.take n).toArray.size ≤ sizeLine
    rw [List.size_toArray, List.length_take, sizeLine_eq]
    omega
  obtain ⟨os, hos, hcs, hds⟩ := id hs
  have hTs : s.TypeIs (.ref sl) "slice" := ⟨os, hos, hcs⟩
  have hsz' : xs.toArray.size = n + 1 := by rw [List.size_toArray, hn]
  unfold getItem
  try with_reducible refine wpAny_holding ?_
  first | refine wpAny_bind (wpAny_pure ?_) | skip
  refine wpAny_bind (wpAny_sequenceKey ht.typeIs (by decide) ?_)
  refine wpAny_bind (wpAny_callSpecial?_slot (name := PySem.Str.ofString "__getitem__") ht.typeIs slot_tuple_getitem
    (wpAny_call_entry slot_tuple_getitem ht.typeIs entry_tuple_getitem ?_ (args_tuple_getitem _ _)))
  show wpAny _ _ (Builtin.Tuple.tupleItemsOf (.ref t) >>= _) _ _ s
  refine wpAny_bind (tupleItemsOf_ ht ?_)
  refine wpAny_bind (wpAny_typeOf hTs ?_)
  rw [if_pos (by decide)]
  rw [hsz']
  refine wpAny_bind (sliceApplied_butLast (n := n) hs ?_)
  have hno : ¬ (((0 : Int) == 0 && (1 : Int) == 1 && n == n + 1) = true) := by simp
  show wpAny _ _ (if ((0 : Int) == 0 && (1 : Int) == 1 && n == n + 1) = true then _ else _) _ _ s
  rw [if_neg hno, pick_butLast xs n (by omega)]
  first
    | exact wpAny_bind (m := Builtin.Tuple.tupleExact _) (wpAny_newObj_type (wpAny_pure ⟨_, rfl, wpAny_pure h⟩) hdrop)
    | exact wpAny_bind (m := Builtin.Tuple.tupleExact _) (wpAny_newObj_type (wpAny_bind (wpAny_pure (wpAny_pure ⟨_, rfl, wpAny_pure h⟩))) hdrop)
    | exact wpAny_bind (wpAny_bind (m := Builtin.Tuple.tupleExact _) (wpAny_newObj_type (wpAny_pure (wpAny_pure ⟨_, rfl, wpAny_pure h⟩)) hdrop))
    | exact wpAny_bind (wpAny_bind (m := Builtin.Tuple.tupleExact _) (wpAny_newObj_type (wpAny_pure ⟨_, rfl, wpAny_pure h⟩) hdrop))
end
section
variable {G : Gl} {c : Cx} {F : Fm} {ω ω' : Wd} {m m₁ m' : List (PySem.Str × AV)} {σ σ₁ σ₂ σ₃ σ' τ : List AO} {e l r tg : Expr} {pos pos' : Pos} {v a b : AV} {st : Stmt} {ss : List Stmt} {fl : AF} {x : PySem.Str} {es : List Expr} {vs us : List AV} {f : Value} {w : AV}
/-! slices -/
theorem ev_sl_from {i : Int} {k : Nat} {cp sp : Pos} (hl : Ev G c m σ l (.tup vs) σ₁) (hi : (1 : Nat) ≤ i.toNat) (h0 : 0 ≤ i) (h1 : i.toNat ≤ vs.length) (hz : vs.length ≤ 900) (ht : ∀ o r, letTemporaryGo l o r = pure () := by ked_read) :
    Ev G c m σ (.Subscript l (.Slice (some (.Constant (.int i) k cp)) none none sp) pos) (.tup (vs.drop i.toNat)) σ₁ := fun F ω s S Q E p => by
  refine wpAny_Subscript_Slice (T := "tuple") slot_tuple_getitem.lookup (hl F ω s S _ E fun ω₁ a' h₁ t₁ l1 S₁ ha => ?_) ht
  obtain ⟨y, ws, n, rfl, hty, hw⟩ := St.tup (s := { s with heap := h₁, toks := t₁ }) S₁ ha
  refine wpAny_Slice ?_
  rw [evalPart_some, evalPart_none]
  refine wpAny_Constant_int (wpAny_pure (wpAny_pure ?_))
  have ht' : IsTup (h₁.push { cls := .type "slice", data := .fields #[.int i t₁, .none, .none] }) y ws.toArray := IsTup.keeps ⟨_, hty, rfl, n, rfl⟩ fun _ _ e => Heap.get?_push_of_some _ e
  refine ⟨ht'.typeIs, ?_⟩
  have ei : i = (i.toNat : Int) := by omega
  have S₂ := S₁.grow (h' := h₁.push { cls := .type "slice", data := .fields #[.int i t₁, .none, .none] }) fun b o e => Heap.get?_push_of_some _ e
  refine getItem_tuple_from (a := i.toNat) (u := t₁) ht' ?_ hi (by rw [List.size_toArray, hw.length]; exact h1) ?_ (by rw [List.size_toArray, hw.length, sizeLine_eq]; omega)
  · rw [← ei]; exact Heap.IsSliceOf.new ..
  · exact p _ _ _ _ (l1.trans (Wd.le_pushT _ _ _)) (S₂.pushedT (o := tupO (ws.drop i.toNat) 0) rfl) (.tup (n := 0) (.head _) ((hw.drop _).mono (Wd.le_pushT _ _ _)))
theorem ev_sl_butLast {k n : Nat} {cp up sp : Pos} (hl : Ev G c m σ l (.tup vs) σ₁) (hn : vs.length = n + 1) (hz : n ≤ 900) (ht : ∀ o r, letTemporaryGo l o r = pure () := by ked_read) :
    Ev G c m σ (.Subscript l (.Slice none (some (.UnaryOp .USub (.Constant (.int 1) k cp) up)) none sp) pos) (.tup (vs.take n)) σ₁ := fun F ω s S Q E p => by
  refine wpAny_Subscript_Slice (T := "tuple") slot_tuple_getitem.lookup (hl F ω s S _ E fun ω₁ a' h₁ t₁ l1 S₁ ha => ?_) ht
  obtain ⟨y, ws, nn, rfl, hty, hw⟩ := St.tup (s := { s with heap := h₁, toks := t₁ }) S₁ ha
  refine wpAny_Slice ?_
  rw [evalPart_some, evalPart_none]
  refine wpAny_pure ?_
  refine ev_un (σ := σ₁) (σ₁ := σ₁) ev_int op_neg F ω₁ { s with heap := h₁, toks := t₁ } S₁ _ E fun ω₂ u' h₂ t₂ l2 S₂ hu => ?_
  replace hu := hu.m
  obtain ⟨tk, rfl⟩ := hu
  refine wpAny_pure ?_
  have hty2 := St.tup (s := { s with heap := h₂, toks := t₂ }) S₂ (ha.mono l2)
  obtain ⟨y2, ws2, nn2, e2, hty2, hw2⟩ := hty2
  cases e2
  have ht' : IsTup (h₂.push { cls := .type "slice", data := .fields #[.none, .int (-1) tk, .none] }) y ws2.toArray := IsTup.keeps ⟨_, hty2, rfl, nn2, rfl⟩ fun _ _ e => Heap.get?_push_of_some _ e
  refine ⟨ht'.typeIs, ?_⟩
  have S₃ := S₂.grow (h' := h₂.push { cls := .type "slice", data := .fields #[.none, .int (-1) tk, .none] }) fun b o e => Heap.get?_push_of_some _ e
  refine getItem_tuple_butLast (n := n) (u := tk) ht' (by rw [hw2.length, hn]) (Heap.IsSliceOf.new ..) ?_ hz
  exact p _ _ _ _ ((l1.trans l2).trans (Wd.le_pushT _ _ _)) (S₃.pushedT (o := tupO (ws2.take n) 0) rfl) (.tup (n := 0) (.head _) ((hw2.take _).mono (Wd.le_pushT _ _ _)))
theorem VRs.rev {K : Frag} {vs : List AV} {ws : List Value} (h : VRs K ω vs ws) : VRs K ω vs.reverse ws.reverse :=
  h.ind (P := fun vs ws => VRs K ω vs.reverse ws.reverse) .nil fun h _ ih => by rw [List.reverse_cons, List.reverse_cons]; exact VRs.append (.cons h .nil) ih
theorem ev_sl_rev {k i n : Nat} {cp up sp : Pos} (hl : Ev G c m σ l (.loc i) σ₁) (hi : σ₁[i]? = some (.list vs)) (hn : σ₁.length = n) (hz : vs.length ≤ 900) (ht : ∀ o r, letTemporaryGo l o r = pure () := by ked_read) :
    Ev G c m σ (.Subscript l (.Slice none none (some (.UnaryOp .USub (.Constant (.int 1) k cp) up)) sp) pos) (.loc n) (σ₁ ++ [.list vs.reverse]) := fun F ω s S Q E p => by
  subst hn
  refine wpAny_Subscript_Slice_step (T := "list") list_getitem_lookup (hl F ω s S _ E fun ω₁ a' h₁ t₁ l1 S₁ ha => ?_) ht
  refine wpAny_Slice ?_
  rw [evalPart_some, evalPart_none]
  refine wpAny_pure (wpAny_pure ?_)
  refine ev_un (σ := σ₁) (σ₁ := σ₁) ev_int op_neg F ω₁ { s with heap := h₁, toks := t₁ } S₁ _ E fun ω₂ u' h₂ t₂ l2 S₂ hu => ?_
  replace hu := hu.m
  obtain ⟨tk, rfl⟩ := hu
  obtain ⟨y, ws, nn, rfl, hy, hl2, hw⟩ := St.lst (s := { s with heap := h₂, toks := t₂ }) S₂ hi (ha.mono l2)
  have hl' : (h₂.push { cls := .type "slice", data := .fields #[.none, .none, .int (-1) tk] }).IsList y ws.toArray := (isList_of (s := { s with heap := h₂, toks := t₂ }) hl2).push _
  refine ⟨hl'.typeIs, ?_⟩
  have S₃ := S₂.grow (h' := h₂.push { cls := .type "slice", data := .fields #[.none, .none, .int (-1) tk] }) fun b o e => Heap.get?_push_of_some _ e
  refine wpAny_getItem_list_slice hl' (Heap.IsSliceOf.new ..) .none .none (.int _ _) (by decide) ?_ (by rw [List.size_toArray, hw.length, sizeLine_eq]; omega)
  rw [krv_pick]
  obtain ⟨S₄, h4⟩ := S₃.pushed (o := listOf ws.reverse.toArray 0) (y := .list vs.reverse) rfl (.list (hw.rev.mono (Wd.le_push _ _)))
  exact p _ _ _ _ ((l1.trans l2).trans (Wd.le_push _ _)) S₄ (.loc h4)
theorem op_addT (h1 : vs ≠ []) (h2 : us ≠ []) (hz : vs.length + us.length ≤ 900) : Op2 G (binaryOp .Add) σ (.tup vs) (.tup us) (.tup (vs ++ us)) σ := fun c F ω m s a' b' S ra rb Q E p => by
  obtain ⟨y, ws, n, rfl, ht, hw⟩ := S.tup ra
  obtain ⟨y2, ws2, n2, rfl, ht2, hw2⟩ := S.tup rb
  have e : ws.toArray ++ ws2.toArray = (ws ++ ws2).toArray := by simp
  have l1 := hw.length
  have l2 := hw2.length
  have q1 : ws ≠ [] := fun q => h1 (List.eq_nil_of_length_eq_zero (by rw [← l1, q]; rfl))
  have q2 : ws2 ≠ [] := fun q => h2 (List.eq_nil_of_length_eq_zero (by rw [← l2, q]; rfl))
  refine concat_meets ⟨_, ht, rfl⟩ ⟨_, ht2, rfl⟩ noFill_tuple_add seq_tuple_add PySem.F.slot_tuple_add PySem.F.entry_tuple_add (PySem.F.args_tuple_add_2 _ _)
    (tuple_addW2 y y2 ws.toArray ws2.toArray n n2 none none #[] #[] (by simpa using q1) (by simpa using q2) (by rw [List.size_toArray, List.size_toArray, sizeLine_eq]; omega)) ⟨ht, ht2, ?_⟩
  rw [e]
  exact p _ _ _ _ (Wd.le_pushT _ _ _) (S.pushedT (o := tupO (ws ++ ws2) 0) rfl) (.tup (n := 0) (.head _) ((VRs.append hw2 hw).mono (Wd.le_pushT _ _ _)))

/-! the table of shapes -/
noncomputable def shapesEs (P : Params) : List DictEntry := [en P "const" 263 (.str "dx" 264), en P "move" 266 (.str "ds" 267), en P "global" 269 (.str "dx" 270), en P "setglobal" 272 (.str "xs" 273), en P "static" 275 (.str "dx" 276), en P "capture" 278 (.str "dx" 279), en P "call" 281 (.str "dsm" 282), en P "splat" 284 (.str "dsmx" 285), en P "kwcall" 287 (.str "dsxmm" 288), en P "closure" 290 (.str "dxm" 291), en P "box" 293 (.str "d" 294), en P "unbox" 296 (.str "dsx" 297), en P "setbox" 299 (.str "ss" 300), en P "clear" 302 (.str "d" 303), en P "goto" 305 (.str "g" 306), en P "unless" 308 (.str "sg" 309), en P "return" 311 (.str "s" 312), en P "enter" 314 (.str "g" 315), en P "leave" 316 (.str "x" 317), en P "caught" 318 (.str "d" 319), en P "rethrow" 320 (.str "" 321), en P "defined" 322 (.str "sx" 323), en P "method" 324 (.str "xsx" 325), en P "invoke" 326 (.str "dxm" 327), en P "guard" 328 (.str "xg" 329)]
theorem shapes_at : G.K.lookup 68 = some (dictOf (shapesEs G.w.params) 25) := by kernel_rfl!
theorem shapes_keys {P : Params} : ∀ e ∈ shapesEs P, ∃ k t, e.key = .str k t ∧ e.hash = PyData.keyHash P k := by
  refine KeysLit.all (l := shapesEs P) ?_
  unfold shapesEs
  repeat' first | exact trivial | refine ⟨⟨_, _, rfl, rfl⟩, ?_⟩
theorem St.shapes {h : Heap} (S : St G c F ω m σ h) : h.MapOf (strKind P0 G.w) 68 (fun k => findBy (strKind P0 G.w).is (shapesEs G.w.params).toArray k) :=
  ⟨_, _, _, S.KIn 68 _ shapes_at, ⟨rfl, rfl, rfl⟩, rfl, fun e he => by
    obtain ⟨k, t, h1, h2⟩ := shapes_keys e (by simpa using he)
    exact ⟨k, by rw [h1]; exact strKind_is _ _ _ _, h2⟩, fun k => rfl⟩
theorem gm_shapes : Gm G σ (.glob (.ref 68)) "get" (.builtin "dict.get") := fun c F ω m s a' pl S r Q E p => by
  cases r
  exact getMethod_builtin S.shapes.typeIs PySem.F.plainAttrs_dict PySem.F.slot_dict_get PySem.F.type_dict_get S.shapes.noDict (p s.toks)
theorem cl_shapes {y : PySem.Str} {t : Tok} (hx : findBy (strKind P0 G.w).is (shapesEs G.w.params).toArray x = some (.str y t)) : Cl G 0 (.builtin "dict.get") [.glob (.ref 68), .str x] σ (.str y) σ := fun c F ω m s args' hk S hv Q E p => by
  obtain ⟨a', b', rfl, ra, rb⟩ := hv.two
  cases ra
  replace rb := rb.m
  obtain ⟨u, rfl⟩ := rb
  refine call_meetsIn PySem.F.slot_dict_get S.shapes.typeIs PySem.F.entry_dict_get (PySem.F.args_dict_get_2 _ _) (meets_dict_get (strKind P0 G.w) 68 (strKind_is _ _ x u) (by decide)) ⟨_, S.shapes, ?_⟩
  rw [hx]
  exact p.tok S (.str _ _) _

/-! values that are called -/
noncomputable def ClV (G : Gl) (k : Nat) (f : AV) (args : List AV) (σ : List AO) (v : AV) (σ' : List AO) : Prop :=
  ∀ c F ω m s f' args', k ≤ c.k → St G c F ω m σ s.heap → VR G.K ω f f' → VRs G.K ω args args' → ∀ Q E, Po G c F ω m s v σ' Q →
    (∃ kk, (kk = Keeper.frame ∨ kk = Keeper.machine ∨ kk = Keeper.boundFrame) ∧ Looks (model P0 G.w) s.heap (keeperOf f') kk) ∧ wpAny (model P0 G.w) F.A (call f' args') Q E s
noncomputable def ClVE (G : Gl) (k : Nat) (f : AV) (args : List AV) (σ : List AO) (σ₁ : List AO) : Prop :=
  ∀ c F ω m s f' args', k ≤ c.k → St G c F ω m σ s.heap → VR G.K ω f f' → VRs G.K ω args args' → ∀ Q E, PoE G c F ω m σ₁ true s E →
    (∃ kk, (kk = Keeper.frame ∨ kk = Keeper.machine ∨ kk = Keeper.boundFrame) ∧ Looks (model P0 G.w) s.heap (keeperOf f') kk) ∧ wpAny (model P0 G.w) F.A (call f' args') Q E s
theorem ev_callV {k : Nat} (hf : Ev G c m σ (.Name x pos') w σ) (he : Evs G c m σ es vs σ₁) (hc : ClV G k w vs σ₁ v σ') (hkc : k ≤ c.k := by decide) (hp : plainArgs es := by ked_read) : Ev G c m σ (.Call (.Name x pos') es [] pos) v σ' := fun F ω s S Q E p =>
  wpAny_Call_NameR (hf F ω s S _ E fun ω₁ f' h' tk' l1 S₁ hv => callWith_of (P := fun h => ∃ kk, (kk = Keeper.frame ∨ kk = Keeper.machine ∨ kk = Keeper.boundFrame) ∧ Looks (model P0 G.w) h (keeperOf f') kk) (by rw [backTo_plain hp]; rfl) (fun h q => q)
    (evalArgs_of hp (he F ω₁ { s with heap := h', toks := tk' } pos S₁ _ E fun ω₂ ws h₂ t₂ l2 S₂ hvs => hc c F ω₂ m { s with heap := h₂, toks := t₂ } f' ws hkc S₂ (hv.mono l2) hvs Q E (p.on (l1.trans l2)))))
theorem evE_callV {k : Nat} (hf : Ev G c m σ (.Name x pos') w σ) (he : Evs G c m σ es vs σ₁) (hc : ClVE G k w vs σ₁ τ) (hkc : k ≤ c.k := by decide) (hp : plainArgs es := by ked_read) : EvE G c m σ (.Call (.Name x pos') es [] pos) τ := fun F ω s S Q E p =>
  wpAny_Call_NameR (hf F ω s S _ E fun ω₁ f' h' tk' l1 S₁ hv => callWith_of (P := fun h => ∃ kk, (kk = Keeper.frame ∨ kk = Keeper.machine ∨ kk = Keeper.boundFrame) ∧ Looks (model P0 G.w) h (keeperOf f') kk) (by rw [backTo_plain hp]; rfl) (fun h q => q)
    (evalArgs_of hp (he F ω₁ { s with heap := h', toks := tk' } pos S₁ _ E fun ω₂ ws h₂ t₂ l2 S₂ hvs => hc c F ω₂ m { s with heap := h₂, toks := t₂ } f' ws hkc S₂ (hv.mono l2) hvs Q E (p.on (l1.trans l2)))))
/-- calls at the code's level -/
noncomputable def Cd (G : Gl) (k : Nat) (f : Value) (args : List AV) (σ : List AO) (v : AV) (σ' : List AO) : Prop :=
  ∀ c F ω m s args', k ≤ c.k → St G c F ω m σ s.heap → VRs G.K ω args args' → ∀ R : Result → Shared → Prop, Po G c F ω m s v σ' (fun v s' => R (.ok (.ret v)) s') → codeAny (model P0 G.w) F.A (.call f ⟨args', []⟩) R s
noncomputable def CdE (G : Gl) (k : Nat) (f : Value) (args : List AV) (σ : List AO) (σ₁ : List AO) : Prop :=
  ∀ c F ω m s args', k ≤ c.k → St G c F ω m σ s.heap → VRs G.K ω args args' → ∀ R : Result → Shared → Prop, PoE G c F ω m σ₁ true s (fun e s' => R (.error e) s') → codeAny (model P0 G.w) F.A (.call f ⟨args', []⟩) R s
theorem cd_def {k : Nat} {q : PySem.Str} {sf : Stmt} {dV pm cdv : Value} {xs : List PySem.Str}
    {fa : Addr} (ho : G.K.lookup fa = some (fo sf q dV pm cdv)) (hcd : codeIn G.K cdv q = true)
    (hbind : ∀ s ws, G.K.In s.heap → ws.length = vs.length → BindsTo s (fdOf sf q dV pm cdv) ⟨ws, []⟩ (xs.zip ws))
    (hloc : (xs.all fun x => (dScope sf).names.lookup x == some .local) = true) (hnd : xs.Nodup)
    (hbody : Sx G ⟨k, q, dScope sf, fa, cdv, [], none⟩ (xs.zip vs) σ (dBody sf) fl m' σ')
    (hcell : ((dScope sf).names.all fun x => x.2 != .cell) = true) (hco : (dScope sf).isCoroutine = false) (hgen : (dScope sf).isGenerator = false) (hk : (dScope sf).kind = .function) (hr : retOf fl = v) :
    Cd G (k + 1) (.ref fa) vs σ v σ' := hr ▸ fun c F ω m s args' hle S hv R p =>
  code_in ho hcd hbind hloc hnd hbody hcell hco hgen hk (Nat.lt_of_succ_le hle) S rfl rfl (by have := S.hD; omega) (by have := S.hU; omega) hv fun ω' v' h' tk' l1 S' hv' => p ω' v' h' tk' l1 S' hv'
theorem cd_defE {tr : Bool} {k : Nat} {q : PySem.Str} {sf : Stmt} {dV pm cdv : Value} {xs : List PySem.Str}
    {fa : Addr} (ho : G.K.lookup fa = some (fo sf q dV pm cdv)) (hcd : codeIn G.K cdv q = true)
    (hbind : ∀ s ws, G.K.In s.heap → ws.length = vs.length → BindsTo s (fdOf sf q dV pm cdv) ⟨ws, []⟩ (xs.zip ws))
    (hloc : (xs.all fun x => (dScope sf).names.lookup x == some .local) = true) (hnd : xs.Nodup)
    (hbody : SxE G ⟨k, q, dScope sf, fa, cdv, [], none⟩ (xs.zip vs) σ (dBody sf) tr m' τ)
    (hcell : ((dScope sf).names.all fun x => x.2 != .cell) = true) (hco : (dScope sf).isCoroutine = false) (hgen : (dScope sf).isGenerator = false) (hk : (dScope sf).kind = .function) :
    CdE G (k + 1) (.ref fa) vs σ τ := fun c F ω m s args' hle S hv R p =>
  code_inE ho hcd hbind hloc hnd hbody hcell hco hgen hk (Nat.lt_of_succ_le hle) S rfl rfl (by have := S.hD; omega) (by have := S.hU; omega) hv p
/-! bound methods -/
theorem meth_keeper {h : Heap} {y g : Addr} {self : Value} (X : G.K.In h) (hy : h.get? y = some (methodObj (.ref g) self)) (hf : fnIn G.K g = true) : ∃ kk, (kk = Keeper.frame ∨ kk = Keeper.machine ∨ kk = Keeper.boundFrame) ∧ Looks (model P0 G.w) h (keeperOf (.ref y)) kk :=
  keeps_M hf h ⟨hy, X⟩
theorem clV_meth {i j : Nat} {g : Addr} {k : Nat} (hi : σ[i]? = some (.meth g j)) (hf : fnIn G.K g = true) (hc : Cd G k (.ref g) (.loc j :: vs) σ v σ') : ClV G k (.loc i) vs σ v σ' := fun c F ω m s f' args' hk S hfv hv Q E p => by
  replace hfv := hfv.m
  obtain ⟨y, rfl, hy⟩ := hfv
  obtain ⟨o, ho, hr⟩ := S.atL hi hy
  replace hr := hr.m
  obtain ⟨_, hj, rfl⟩ := hr
  exact ⟨meth_keeper S.KIn ho hf, wpAny_call (method_call ho (hc c F ω m s _ hk S (.cons (.loc hj) hv) _ p))⟩
theorem clV_methE {i j : Nat} {g : Addr} {k : Nat} (hi : σ[i]? = some (.meth g j)) (hf : fnIn G.K g = true) (hc : CdE G k (.ref g) (.loc j :: vs) σ τ) : ClVE G k (.loc i) vs σ τ := fun c F ω m s f' args' hk S hfv hv Q E p => by
  replace hfv := hfv.m
  obtain ⟨y, rfl, hy⟩ := hfv
  obtain ⟨o, ho, hr⟩ := S.atL hi hy
  replace hr := hr.m
  obtain ⟨_, hj, rfl⟩ := hr
  exact ⟨meth_keeper S.KIn ho hf, wpAny_call (method_call ho (hc c F ω m s _ hk S (.cons (.loc hj) hv) _ p))⟩
theorem ev_meth {i d n : Nat} {C g : Addr} {ies : List (PySem.Str × AV)} {apos : Pos} (ho : Ev G c m σ e (.loc i) σ₁) (hi : σ₁[i]? = some (.inst C d)) (hd : σ₁[d]? = some (.idict ies)) (hx : lk x ies = none) (hn : σ₁.length = n)
    (hg : plainGet G.K C x = true) (hh : hasDictIn G.K C = true) (ha : findIn G.K (.ref C) x = some (some (.ref g))) (hf : isFn G.K (.ref g) = true)
    (hgf : specialIn G.K (.ref g) "__get__" = some (some (.builtin "function.__get__"))) (ht : takesIn G.K (.ref g) = some false) (hc : copiedNames.contains x = false)
    (hbase : ∀ env, attributeBase e x env (eval e env) = eval e env := by ked_read) : Ev G c m σ (.Attribute e x apos) (.loc n) (σ₁ ++ [.meth g i]) := fun F ω s S Q E p => by
  subst hn
  rw [arm_eval_Attribute, hbase]
  refine wpAny_bind (ho F ω s S _ E fun ω₁ a' h' tk' l1 S₁ ha' => ?_)
  refine wpAny_bind (wpAny_standAt ?_)
  obtain ⟨y, dx, ds, nn, rfl, hy, _, I, hen, _⟩ := S₁.inst hi hd ha'
  refine wpAny_bind (wpAny_holding ?_)
  refine get_bind (s := { s with heap := h', toks := tk' }) (K := G.K) S₁.KIn I (plainGet_of hg).1 (findObj_fn hh ha hgf ht hc (by show lookIn x (dictOf ds nn) = _; rw [lookIn_dict, hen.getL0 hx])) (plainGet_of hg).2
    (wpAny_call (fn_get (s := { s with heap := h', toks := tk' + 1 }) (K := G.K) S₁.KIn (beq_iff_eq.mp hf) (handed_on rfl ?_)))
  obtain ⟨S₂, h2⟩ := S₁.pushed (o := methodObj (.ref g) (.ref y)) (y := .meth g i) rfl (.meth ((Wd.le_push _ _).at hy))
  exact wpAny_bind (wpAny_letTemporaryGo (wpAny_pure (p _ _ _ _ (l1.trans (Wd.le_push _ _)) S₂ (.loc h2))))
end
end SM28
section SM29
section
variable {G : Gl} {c : Cx} {F : Fm} {ω ω' : Wd} {m m₁ m' : List (PySem.Str × AV)} {σ σ₁ σ₂ σ₃ σ' τ : List AO} {e l r tg : Expr} {pos pos' : Pos} {v a b : AV} {st : Stmt} {ss : List Stmt} {fl : AF} {x : PySem.Str} {es : List Expr} {vs us : List AV} {f : Value} {w : AV}
theorem lamBody_is : ∃ p, lamBody = .Name "register" p := ⟨_, rfl⟩
theorem code256 {h : Heap} (X : G.K.In h) : CodeHd h 256 254 := ⟨_, _, _, _, _, _, _, _, _, X 256 _ rfl, rfl, rfl, rfl, rfl, rfl, rfl, rfl, rfl, by decide⟩
theorem ev_code : (ev c F).code = c.ccd := by unfold ev; cases c.blk <;> rfl
theorem St.bltAt {h : Heap} (S : St G c F ω m σ h) (h254 : F.h₀.get? 254 = none) : h.BuiltinsAt G.mg 254 := by
  obtain ⟨M, Fh, hM⟩ := S.lo
  have T := S.T
  obtain ⟨bm, ob, b1, b2, b3, b4, b5, b6⟩ := T.bmain
  have hbP : bm ≠ 254 := fun q => by rw [q, h254] at b3; cases b3
  have hbG : bm ≠ mainGlobals := fun q => by
    obtain ⟨o, es, ep, e, hd, _⟩ := T.g
    rw [q, e] at b3; cases b3; rw [hd] at b6; cases b6
  exact ⟨bm, ob, b1, b2, hbG, hbP, Fh.keep _ _ b3, b4, b5, b6⟩
theorem ev_lam0 {n : Nat} (hb : ∃ b, c.blk = some b) (hcc : c.ccd = .ref 256) (hcn : c.cn = "Writer.code") (hσ : σ[0]? = some (.tab none)) (hn : σ.length = n) :
    Ev G c m σ (.Lambda lamPars lamBody lamScope lamPos) (.loc (n + 1)) (((σ ++ [AO.code lamQual]).set 0 (.tab (some n))) ++ [.lam n]) := fun F ω s S Q E p => by
  subst hn
  obtain ⟨b, hb⟩ := hb
  obtain ⟨M, Fh, hM⟩ := S.lo
  obtain ⟨o, ho, hr⟩ := S.atL hσ S.t0
  have h254 := (S.atN hσ S.t0).2
  replace hr := hr.m
  obtain rfl := hr
  obtain ⟨cl, hclo, hcel⟩ := closure_is (scope := lamScope) S.cells (cs := []) (by rfl)
  have hcl : cl = [] := by cases cl with | nil => rfl | cons q r => exact hcel.elim
  subst hcl
  have hq : (ev c F).qual ++ "<lambda>" = lamQual := by unfold ev; rw [hb]; show c.cn ++ ".<locals>." ++ "<lambda>" = _; rw [hcn]
  refine kla_eval rfl ?_
  rw [hq]
  refine kla_makeFunction (mg := G.mg) hclo ev_globals (S.T.g.keeps Fh.keep) (ev_code.trans hcc) (code256 S.KIn) ho trivial rfl (by decide) (S.bltAt h254) fun c' ctv h' tk hx hge hlt hrec htb => ?_
  obtain ⟨c2, oc, vs, t, e2, hoc, hdc, hvc⟩ := hrec
  cases e2
  have hlt0 : @LT.lt Nat _ 254 s.heap.objs.size := Heap.lt_size ho
  have hne : c' ≠ 254 := fun q => by rw [q] at hge; omega
  -- the heap with the table as it was
  have tf : (tabObj #[]).isFreed = false := rfl
  have g254 : (h'.update 254 fun _ => tabObj #[]).get? 254 = some (tabObj #[]) := Heap.get?_update_self _ htb rfl
  have gne : ∀ b, b ≠ 254 → (h'.update 254 fun _ => tabObj #[]).get? b = h'.get? b := fun b hb => Heap.get?_update_ne _ _ _ _ hb
  have hk : ∀ b o, s.heap.get? b = some o → (h'.update 254 fun _ => tabObj #[]).get? b = some o := fun b o e => by
    by_cases q : b = 254
    · rw [q] at e ⊢
      rw [ho] at e; cases e
      exact g254
    · rw [gne b q]; exact hx b o q e
  have lp := Wd.le_push ω c'
  have S1 := S.new (x := .code lamQual) (o := oc) hk hge (by rw [gne c' hne]; exact hoc) (.code hdc hvc)
  have hsame : Heap.SameBut 254 (h'.update 254 fun _ => tabObj #[]) h' := by
    have q := Heap.SameBut.update h' 254 fun _ => tabObj #[]
    exact ⟨q.1.symm, fun b hb => (q.2 b hb).symm⟩
  have hcat : (ω.push c').as[σ.length]? = some c' := by
    show (ω.as ++ [c'])[σ.length]? = _
    rw [← S.len]; simp
  have S2 := S1.upd (y := .tab (some σ.length)) (at_old hσ) (lp.at S.t0) hsame htb (.tab1 hcat)
  obtain ⟨S3, q3⟩ := S2.pushed (o := kla_obj "<lambda>" lamQual lamPars lamBody lamScope [] ((G.mg "__name__").getD .none) c' ctv) (y := .lam σ.length) rfl (.lam ((Wd.le_push _ _).at hcat))
  have hl : ((σ ++ [AO.code lamQual]).set 0 (.tab (some σ.length))).length = σ.length + 1 := by simp
  rw [hl] at q3
  exact p _ _ _ tk (lp.trans (Wd.le_push _ _)) S3 (.loc q3)
theorem ev_lam1 {n j : Nat} (hb : ∃ b, c.blk = some b) (hcc : c.ccd = .ref 256) (hcn : c.cn = "Writer.code") (hσ : σ[0]? = some (.tab (some j))) (hn : σ.length = n) :
    Ev G c m σ (.Lambda lamPars lamBody lamScope lamPos) (.loc n) (σ ++ [.lam j]) := fun F ω s S Q E p => by
  subst hn
  obtain ⟨b, hb⟩ := hb
  obtain ⟨M, Fh, hM⟩ := S.lo
  obtain ⟨o, ho, hr⟩ := S.atL hσ S.t0
  have h254 := (S.atN hσ S.t0).2
  replace hr := hr.m
  obtain ⟨_, hj, rfl⟩ := hr
  rename_i a'
  obtain ⟨cl, hclo, hcel⟩ := closure_is (scope := lamScope) S.cells (cs := []) (by rfl)
  have hcl : cl = [] := by cases cl with | nil => rfl | cons q r => exact hcel.elim
  subst hcl
  have hq : (ev c F).qual ++ "<lambda>" = lamQual := by unfold ev; rw [hb]; show c.cn ++ ".<locals>." ++ "<lambda>" = _; rw [hcn]
  refine kla_eval rfl ?_
  rw [hq]
  refine kla_makeFunctionHit (mg := G.mg) (cv := .ref a') hclo ev_globals (S.T.g.keeps Fh.keep) (ev_code.trans hcc) (code256 S.KIn) ho ?_ ?_ (S.bltAt h254) fun ctv h' tk hx hge => ?_
  · trivial
  · simp [codeAmong, rawInt]
  · have S1 := S.grow (h' := h') hx
    obtain ⟨S3, q3⟩ := S1.pushed (o := kla_obj "<lambda>" lamQual lamPars lamBody lamScope [] ((G.mg "__name__").getD .none) a' ctv) (y := .lam j) rfl (.lam ((Wd.le_push _ _).at hj))
    exact p _ _ _ tk (Wd.le_push _ _) S3 (.loc q3)
theorem clV_lam {i j : Nat} (hi : σ[i]? = some (.lam j)) (hj : σ[j]? = some (.code lamQual)) : ClV G 1 (.loc i) [v] σ v σ := fun c F ω m s f' args' hk S hfv hv Q E p => by
  obtain ⟨v', rfl, hv'⟩ := hv.one
  replace hfv := hfv.m
  obtain ⟨y, rfl, hy⟩ := hfv
  obtain ⟨o, ho, hr⟩ := S.atL hi hy
  replace hr := hr.m
  obtain ⟨_, _, _, hja, rfl⟩ := hr
  rename_i aj pm ctv
  obtain ⟨oc, hoc, hrc⟩ := S.atL hj hja
  replace hrc := hrc.m
  obtain ⟨_, _, q1, q2⟩ := hrc
  obtain ⟨M, Fh, hM⟩ := S.lo
  refine ⟨⟨.frame, .inl rfl, (Looks.ld ho).andThen .now⟩, wpAny_call ?_⟩
  have hD := S.hD
  refine kla_callFunE (body := lamBody) (by show F.A.depth < 1000; omega) ho rfl (by kernel_rfl!) (by kernel_rfl!) rfl ⟨_, _, _, _, rfl, hoc, q1, q2⟩ ?_
  have hbd : bindArgs (kla_fn "<lambda>" lamQual lamPars lamBody lamScope [] pm (.ref aj) ctv) ⟨[v'], []⟩ = pure [(("register" : PySem.Str), v')] := by kernel_rfl!
  rw [hbd]
  refine wpAny_pure (wpAny_newFunctionEnv ?_ ?_ (fun h₁ hns hsb => ⟨((S.T.nolimit).keeps Fh.keep).fresh _ hsb, ?_⟩) (by kernel_rfl!))
  · intro x hx
    have : (lamScope.names.all fun x => x.2 != .cell) = true := by kernel_rfl!
    simpa using List.all_eq_true.mp this x hx
  · intro x hx
    have e : x = (("register" : PySem.Str), v') := List.mem_singleton.mp hx
    rw [e]
    show lamScope.names.lookup ("register" : PySem.Str) = some NameKind.local
    kernel_rfl!
  · have hk₁ : ∀ b o, s.heap.get? b = some o → h₁.get? b = some o := fun b o e => hsb.extBut b o (Nat.ne_of_lt (Heap.lt_size e)) (Heap.get?_push_of_some _ e)
    obtain ⟨pp, hpp⟩ := lamBody_is
    refine kla_codeExpr ?_
    rw [hpp]
    refine wpAny_Name (wpAny_loadName_local (m := fun y => ([("register", v')] : List (PySem.Str × Value)).reverse.lookup y) (by kernel_rfl!) (by show lamScope.names.lookup ("register" : PySem.Str) = some NameKind.local; kernel_rfl!) hns (by rfl) ?_) (by decide +kernel)
    exact p ω v' h₁ _ (.refl ω) (S.grow hk₁) hv'
end
end SM29
section SC1a
theorem ne_lit {a b : Nat} (h : Nat.beq a b = false) : a ≠ b := Nat.ne_of_beq_eq_false h
theorem ne_add {n a b : Nat} (h : Nat.beq a b = false) : n + a ≠ n + b := fun q => Nat.ne_of_beq_eq_false h (Nat.add_left_cancel q)
theorem ne_addl {n a : Nat} (h : Nat.beq a 0 = false) : n + a ≠ n := fun q => Nat.ne_of_beq_eq_false h (Nat.add_left_cancel (m := a) (k := 0) q)
theorem ne_addr {n a : Nat} (h : Nat.beq a 0 = false) : n ≠ n + a := fun q => ne_addl h q.symm
theorem lt_lit {a b : Nat} (h : Nat.blt a b = true) : a < b := Nat.le_of_ble_eq_true h
theorem le_lit {a b : Nat} (h : Nat.ble a b = true) : a ≤ b := Nat.le_of_ble_eq_true h
theorem ne_gt {p i a : Nat} (h : i < p) : p + a ≠ i := fun q => by omega
theorem ne_gtr {p i a : Nat} (h : i < p) : i ≠ p + a := fun q => by omega
theorem le_addr {n a : Nat} : n ≤ n + a := Nat.le_add_right _ _
end SC1a
local macro_rules | `(tactic| kwd_rel) => `(tactic|
  first
    | with_reducible assumption
    | with_reducible exact lk_here
    | with_reducible exact lk_nil
    | with_reducible refine' lk_there ?ha ?hb
      case ha => decide +kernel
      case hb => kwd_rel)
local macro_rules | `(tactic| kwd_less) => `(tactic|
  first
    | with_reducible exact put_here
    | with_reducible exact put_nil
    | with_reducible refine' put_there ?ha ?hb
      case ha => decide +kernel
      case hb => kwd_less)
local macro_rules | `(tactic| kwd_inv) => `(tactic|
  first
    | with_reducible assumption
    | with_reducible exact ne_lit rfl
    | with_reducible exact ne_add rfl
    | with_reducible exact ne_addl rfl
    | with_reducible exact ne_addr rfl
    | with_reducible exact lt_lit rfl
    | with_reducible exact le_lit rfl
    | with_reducible exact ne_gt (by assumption)
    | with_reducible exact ne_gtr (by assumption)
    | with_reducible exact Nat.ne_of_gt (by assumption)
    | with_reducible exact Nat.ne_of_lt (by assumption)
    | with_reducible exact le_addr
    | omega
    | simp only [List.length_cons, List.length_nil, List.length_append, List.length_set, List.length_map, sizeLine_eq]
      omega
    | decide
    | rfl)
local macro_rules | `(tactic| krn_off) => `(tactic|
  first
    | with_reducible assumption
    | with_reducible exact at_zero
    | with_reducible refine' at_set_eq ?ha
      case ha => krn_off
    | with_reducible refine' at_set_ne ?ha ?hb
      case ha => kwd_inv
      case hb => krn_off
    | with_reducible refine' at_push ?ha
      case ha => kqd_sub
    | with_reducible refine' at_old ?ha
      case ha => krn_off
    | with_reducible refine' at_cons ?ha
      case ha => krn_off
    | rfl)
local macro_rules | `(tactic| kqd_sub) => `(tactic|
  first
    | with_reducible assumption
    | simp only [List.length_cons, List.length_nil, List.length_append, List.length_set, Nat.add_assoc, Nat.reduceAdd, Nat.zero_add]
      done
    | simp only [List.length_cons, List.length_nil, List.length_append, List.length_set, Nat.add_assoc, Nat.reduceAdd, Nat.zero_add]
      with_reducible rfl
    | simp only [List.length_cons, List.length_nil, List.length_append, List.length_set]
      omega)
local macro_rules | `(tactic| kd_p) => `(tactic|
  first
    | with_reducible assumption
    | rfl
    | decide +kernel
    | simp [pl, pls, *]
      done)
local macro_rules | `(tactic| kd_in) => `(tactic|
  first
    | with_reducible refine' rd_list ?ha ?hb
      case ha => krn_off
      case hb => kd_p
    | with_reducible refine' rd_tup ?ha
      case ha => kd_p
    | with_reducible refine' rd_val ?ha
      case ha => kd_p)
local macro_rules | `(tactic| kd_all) => `(tactic|
  first
    | with_reducible exact tru_bool
    | with_reducible exact tru_int)
local macro_rules | `(tactic| kpf_c) => `(tactic|
  first
    | with_reducible exact op_add
    | with_reducible exact op_sub
    | with_reducible exact op_iadd
    | with_reducible refine' op_mul ?ha
      case ha => exact IntMulOk.of_right (by decide +kernel)
    | with_reducible refine' op_mod ?ha
      case ha => kwd_inv
    | with_reducible refine' op_fdiv ?ha ?hb
      case ha => kwd_inv
      case hb => kwd_inv
    | with_reducible exact op_eq
    | with_reducible exact op_ne
    | with_reducible exact op_lt
    | with_reducible exact op_gt
    | with_reducible exact op_ge
    | with_reducible refine' op_in_dict ?ha
      case ha => krn_off
    | with_reducible exact op_isN_int
    | with_reducible exact op_isN_none
    | with_reducible exact op_isN_loc
    | with_reducible exact op_isN_str
    | with_reducible exact op_isntN_int
    | with_reducible exact op_isntN_none
    | with_reducible exact op_isntN_loc
    | with_reducible refine' op_eqd ?ha ?hb ?hc
      case ha => kd_in
      case hb => kd_in
      case hc => rfl
    | with_reducible refine' op_ned ?ha ?hb ?hc
      case ha => kd_in
      case hb => kd_in
      case hc => rfl
    | with_reducible refine' op_ind ?ha ?hb ?hc
      case ha => kd_in
      case hb => kd_in
      case hc => rfl
    | with_reducible refine' op_notind ?ha ?hb ?hc
      case ha => kd_in
      case hb => kd_in
      case hc => rfl
    | with_reducible refine' op_indT ?ha ?hb ?hc
      case ha => kd_in
      case hb => kd_in
      case hc => rfl
    | with_reducible refine' op_notindT ?ha ?hb ?hc
      case ha => kd_in
      case hb => kd_in
      case hc => rfl
    | with_reducible refine' op_neg
    | with_reducible refine' op_not ?ha
      case ha => kd_all)
local macro_rules | `(tactic| kcj_m) => `(tactic|
  first
    | with_reducible refine' it_tup0 ?ha
      case ha =>
        intro _ _
        rfl
    | with_reducible refine' it_list ?ha ?hb ?hc ?hd ?he
      case ha => krn_off
      case hb => kwd_inv
      case hc =>
        first
          | with_reducible assumption
          | rfl
      case hd => kwd_inv
      case he =>
        intro _ _
        rfl
    | with_reducible refine' it_list_neg ?ha ?hb ?hc ?hd ?he ?hf
      case ha => krn_off
      case hb => kwd_inv
      case hc => kwd_inv
      case hd =>
        first
          | with_reducible assumption
          | rfl
      case he => kwd_inv
      case hf =>
        intro _ _
        rfl
    | with_reducible refine' it_tup ?ha ?hb ?hc ?hd ?he
      case ha => rfl
      case hb => rfl
      case hc => kwd_inv
      case hd => kwd_inv
      case he =>
        intro _ _
        rfl
    | with_reducible refine' it_dict ?ha ?hb ?hc
      case ha => krn_off
      case hb => kwd_rel
      case hc =>
        intro _ _
        rfl)
local macro_rules | `(tactic| kcj_in) => `(tactic|
  first
    | with_reducible refine' g_len ?_
    | with_reducible refine' g_law_tap ?_
    | with_reducible refine' g_law_new ?_
    | with_reducible refine' g_law_constant ?_
    | with_reducible refine' g_law_called ?_
    | with_reducible refine' g_law_deed ?_
    | with_reducible refine' g_law_is_open ?_
    | with_reducible refine' g_law_code ?_
    | with_reducible refine' g_law_written_right ?_
    | with_reducible refine' g_law_scopes_right ?_
    | with_reducible refine' g_law_keg ?_
    | with_reducible refine' g_Writer ?_
    | with_reducible refine' g_Scope ?_
    | with_reducible refine' g_Code ?_
    | with_reducible refine' g_LowerFault ?_
    | with_reducible refine' g_SHAPES ?_
    | with_reducible refine' g_ENDS ?_
    | with_reducible refine' g_NOTHING ?_
    | with_reducible refine' g_shape_of ?_
    | with_reducible refine' g_goals_of ?_
    | with_reducible refine' g_turned_row ?_
    | with_reducible refine' g_int ?_
    | with_reducible refine' g_range ?_
    | with_reducible refine' g_tuple ?_
    | with_reducible refine' g_zip ?_
    | with_reducible refine' g_Exception ?_)
local macro_rules | `(tactic| kcf_m) => `(tactic|
  first
    | with_reducible refine' ev_cellI ?ha ?hb ?hc ?hd
      case ha => kernel_rfl!
      case hb => kt_ors
      case hc => krn_off
      case hd => decide +kernel
    | with_reducible refine' ev_localI ?ha ?hb ?hc ?hd
      case ha => kernel_rfl!
      case hb => krn_off
      case hc => kwd_rel
      case hd => decide +kernel
    | with_reducible refine' ev_local ?ha ?hb ?hc ?hd
      case ha => with_reducible rfl
      case hb => kernel_rfl!
      case hc => kwd_rel
      case hd => decide +kernel
    | with_reducible refine' ev_cellF ?ha ?hb ?hc ?hd
      case ha => kernel_rfl!
      case hb => kt_ors
      case hc => krn_off
      case hd => decide +kernel
    | kcj_in
      kernel_rfl!)
local macro_rules | `(tactic| kcf_all) => `(tactic|
  first
    | with_reducible exact kp_B
    | with_reducible exact kp_T
    | refine' kp_K ?_
      kernel_rfl!)
local macro_rules | `(tactic| kc_close) => `(tactic|
  first
    | with_reducible exact evs_nil
    | with_reducible refine' evs_cons ?ha ?hb ?hc
      case ha => kpt_turns
      case hb => kc_close
      case hc =>
        intro _
        rfl)
local macro_rules | `(tactic| kbt_split) => `(tactic|
  first
    | with_reducible refine' gm_append ?ha
      case ha => krn_off
    | with_reducible refine' gm_inst ?ha ?hb ?hc ?hd ?he ?hf
      case ha => krn_off
      case hb => krn_off
      case hc => kwd_rel
      case hd => kernel_rfl!
      case he => rfl
      case hf => kernel_rfl!)
local macro_rules | `(tactic| kat_tups) => `(tactic|
  first
    | with_reducible refine' ga_inst ?ha ?hb ?hc ?hd ?he ?hf ?hg ?hh
      case ha => krn_off
      case hb => krn_off
      case hc => kwd_rel
      case hd => kernel_rfl!
      case he => kernel_rfl!
      case hf => rfl
      case hg => rfl
      case hh =>
        intro w q
        cases q)
local macro_rules | `(tactic| kas_types) => `(tactic|
  first
    | with_reducible refine' sa_inst ?ha ?hb ?hc ?hd ?he ?hf ?hg
      case ha => krn_off
      case hb => krn_off
      case hc => kernel_rfl!
      case hd => kernel_rfl!
      case he => kernel_rfl!
      case hf => kernel_rfl!
      case hg => kwd_inv)
local macro_rules | `(tactic| kaf_pre) => `(tactic|
  first
    | with_reducible assumption
    | with_reducible refine' cl_len_list ?ha ?hb
      case ha => krn_off
      case hb => kwd_inv
    | with_reducible refine' cl_len_tup ?ha
      case ha => kwd_inv
    | with_reducible refine' cl_len_str ?ha
      case ha => kwd_inv
    | with_reducible refine' cl_append ?ha ?hb
      case ha => krn_off
      case hb => kwd_inv
    | with_reducible refine' cl_tuple_list ?ha ?hb
      case ha => krn_off
      case hb => kwd_inv
    | with_reducible exact cl_tuple_tup
    | with_reducible exact cl_int_bool
    | with_reducible refine' cl_range ?ha
      case ha => kqd_sub
    | ktu_offI)
local macro_rules | `(tactic| ktu_offL) => `(tactic|
  first
    | with_reducible assumption
    | krn_off
    | kwd_rel
    | kwd_inv)
local macro_rules | `(tactic| kpt_turns) => `(tactic|
  first
    | with_reducible exact ev_int
    | with_reducible exact ev_str
    | with_reducible exact ev_none
    | with_reducible exact ev_bool
    | with_reducible refine' ev_nm ?ha
      case ha => kcf_m
    | with_reducible refine' ev_bin ?ha ?hb ?hc
      case ha => kpt_turns
      case hb => kpt_turns
      case hc => kpf_c
    | with_reducible refine' ev_un ?ha ?hb
      case ha => kpt_turns
      case hb => kpf_c
    | with_reducible refine' ev_sub ?ha ?hb ?hc
      case ha => kpt_turns
      case hb => kpt_turns
      case hc => kcj_m
    | with_reducible refine' ev_cmp ?ha ?hb
      case ha =>
        with_reducible refine' cm_of ?na ?nb ?nc
        case na => kpt_turns
        case nb => kpt_turns
        case nc => kpf_c
      case hb => with_unfolding_all rfl
    | with_reducible refine' ev_attr ?ha ?hb ?hc
      case ha => kpt_turns
      case hb => kat_tups
      case hc =>
        intro _
        rfl
    | with_reducible refine' ev_callm ?ha ?hb ?hc ?hd ?he ?hf ?hg ?hh ?hi ?hj
      case ha => kpt_turns
      case hb => kbt_split
      case hc => kc_close
      case hd => kcf_all
      case he => kaf_pre
      case hf => exact Nat.le_of_ble_eq_true (by kernel_rfl!)
      case hg =>
        intro _
        rfl
      case hh => rfl
      case hi =>
        intro _
        rfl
      case hj => rfl
    | with_reducible refine' ev_call ?ha ?hb ?hc ?hd ?he ?hf
      case ha => kcf_m
      case hb => kc_close
      case hc => kcf_all
      case hd => kaf_pre
      case he => exact Nat.le_of_ble_eq_true (by kernel_rfl!)
      case hf =>
        intro _
        rfl
    | with_reducible refine' ev_list ?ha ?hb
      case ha => kc_close
      case hb => kwd_inv
    | with_reducible refine' ev_tuple ?ha ?hb
      case ha => kc_close
      case hb => kwd_inv
    | with_reducible exact ev_dict0)
local macro_rules | `(tactic| kln_le) => `(tactic|
  first
    | with_reducible refine' tt_cmp ?ha ?hb
      case ha =>
        with_reducible refine' cm_of ?na ?nb ?nc
        case na => kpt_turns
        case nb => kpt_turns
        case nc => kpf_c
      case hb => with_unfolding_all rfl
    | with_reducible refine' tt_not ?ha
      case ha => kln_le
    | with_reducible refine' tt_val ?ha ?hb ?hc
      case ha => kpt_turns
      case hb => kd_all
      case hc =>
        intro _ _
        rfl)
local macro_rules | `(tactic| kd_p1) => `(tactic|
  first
    | with_reducible refine' sn_blockI ?ha ?hb ?hc
      case ha => kernel_rfl!
      case hb => krn_off
      case hc => kwd_less
    | with_reducible refine' sn_put ?ha ?hb ?hc
      case ha => with_reducible rfl
      case hb => kernel_rfl!
      case hc => kwd_less
    | with_reducible refine' sn_cellF ?ha ?hb ?hc
      case ha => kernel_rfl!
      case hb => kt_ors
      case hc => krn_off)
local macro_rules | `(tactic| kd_mem) => `(tactic|
  first
    | with_reducible refine' si_list ?ha ?hb ?hc ?hd
      case ha => krn_off
      case hb => kwd_inv
      case hc => kwd_inv
      case hd => kwd_inv
    | with_reducible refine' si_dictP ?ha ?hb ?hc
      case ha => krn_off
      case hb => kwd_less
      case hc => kwd_inv)
local macro_rules | `(tactic| kst_p) => `(tactic|
  first
    | with_reducible refine' s_assign ?ha ?hb ?hc
      case ha => kpt_turns
      case hb => kd_p1
      case hc =>
        intro _
        rfl
    | with_reducible refine' s_setitem ?ha ?hb ?hc ?hd ?he
      case ha => kpt_turns
      case hb => kpt_turns
      case hc => kpt_turns
      case hd => kd_mem
      case he =>
        intro _
        rfl
    | with_reducible refine' s_setattr ?ha ?hb ?hc ?hd
      case ha => kpt_turns
      case hb => kpt_turns
      case hc => kaf_suf
      case hd =>
        intro _
        rfl
    | with_reducible refine' s_augattr ?ha ?hb ?hc ?hd ?he
      case ha => kpt_turns
      case hb => kat_tups
      case hc => kpt_turns
      case hd => kpf_c
      case he => kaf_suf
    | with_reducible refine' s_ret ?ha
      case ha => kpt_turns
    | with_reducible refine' s_expr ?ha ?hb ?hc
      case ha => kpt_turns
      case hb => rfl
      case hc =>
        intro _
        rfl)
local macro_rules | `(tactic| kaf_suf) => `(tactic|
  first
    | with_reducible refine' sa_instP ?ha ?hb ?hc ?hd ?he ?hf ?hg ?hh
      case ha => krn_off
      case hb => krn_off
      case hc => kwd_less
      case hd => kernel_rfl!
      case he => kernel_rfl!
      case hf => kernel_rfl!
      case hg => kernel_rfl!
      case hh => kwd_inv)
local macro_rules | `(tactic| kt_ors) => `(tactic|
  first
    | with_reducible exact lkN_here
    | with_reducible refine' lkN_there ?ha ?hb
      case ha => decide +kernel
      case hb => kt_ors)
local macro_rules | `(tactic| kt_eqs) => `(tactic|
  first
    | refine' sx_next ?ha ?hb
      case ha => kst_p
      case' hb => skip
    | refine' sx_stop ?ha ?hb
      case ha => kst_p
      case hb =>
        intro q
        cases q)
local macro_rules | `(tactic| kqd_in) => `(tactic| (
  intro s ws X hl
  first
    | obtain ⟨a, q⟩ := len1 hl
      subst q
    | obtain ⟨a, b, q⟩ := len2 hl
      subst q
    | obtain ⟨a, b, c, q⟩ := len3 hl
      subst q
    | obtain ⟨a, b, c, d, q⟩ := len4 hl
      subst q
    | obtain ⟨a, b, c, d, e, q⟩ := len5 hl
      subst q
    | obtain ⟨a, b, c, d, e, f, g, i, q⟩ := len8 hl
      subst q
  first
    | refine BindsTo.of_eq ?_
      kernel_rfl!
    | refine binds_K X rfl (o := _) (items := _) (n := _) (by kernel_rfl!) rfl (by rfl) ?_
      rfl))
local macro_rules | `(tactic| kqd_all) => `(tactic|
  first
    | kernel_rfl!
    | kqd_in
    | decide +kernel)
local macro_rules | `(tactic| kfm_turns) => `(tactic|
  first
    | rfl
    | with_reducible assumption
    | refine beq_eq_false_iff_ne.mpr ?_
      omega
    | refine beq_iff_eq.mpr ?_
      omega
    | simp
      done
    | simp
      omega
    | simp [*]
      done)
local macro_rules | `(tactic| kd_facts1) => `(tactic| (
  refine' sx_next ?ha ?hb
  case ha =>
    refine' s_if_F0 ?na ?nb
    case na => kln_le
    case nb => kfm_turns
  case' hb => skip))
local macro_rules | `(tactic| kst_facts) => `(tactic| (
  refine' sx_next ?ha ?hb
  case ha =>
    refine' s_if_F0 ?na ?nb
    case na =>
      refine' tt_bop ?ka
      case ka =>
        refine' at_and_F ?la ?lb
        case la => kln_le
        case lb => kfm_turns
    case nb => rfl
  case' hb => skip))
local macro_rules | `(tactic| kst_facts1) => `(tactic|
  first
    | refine' Lp.done ?ha
      case ha =>
        refine' nd_range ?na ?nb
        case na => krn_off
        case nb => kwd_inv
    | refine' Lp.keep ?ha ?hb ?hc ?hd ?he ?hf
      case ha =>
        refine' dr_range ?na ?nb ?nc ?nd
        case na => krn_off
        case nb => kwd_inv
        case nc =>
          refine' as_name ?ka
          case ka => kd_p1
        case nd =>
          intro _ _
          rfl
      case hb => exact ts_nil
      case hc => kpt_turns
      case hd => krn_off
      case he => kwd_inv
      case hf => kst_facts1)
section SC1b
variable {G : Gl} {σ : List AO}
noncomputable abbrev cxF (k : Nat) (q : PySem.Str) (s : Stmt) (a : Addr) (cd : Value) : Cx := ⟨k, q, dScope s, a, cd, [], none⟩
theorem tap_pos {i : Nat} {a b n : Int} (hσ : σ[i]? = some (.list [.int a, .int b])) (hn : 0 < n) (hn2 : n < 1000000) (ha : 0 < a) :
    ∃ m', Sx G (cxF 0 "_law_tap" (atTop 18) 278 (.ref 277)) [("keg", .loc i), ("many", .int n)] σ (dBody (atTop 18)) (.ret (.int (a.fmod n))) m' (σ.set i (.list [.int (a.fdiv n), .int b])) := by
  apply sx_to
  apply sx_stop
  apply s_if_T
  · kln_le
  · simpa using ha
  · kt_eqs
    kt_eqs
    kt_eqs
  · intro q; cases q
  · rfl
  · rfl
theorem tap_neg {i : Nat} {a b n : Int} (hσ : σ[i]? = some (.list [.int a, .int b])) (hn : 0 < n) (hn2 : n < 1000000) (ha : a ≤ 0) :
    ∃ m', Sx G (cxF 0 "_law_tap" (atTop 18) 278 (.ref 277)) [("keg", .loc i), ("many", .int n)] σ (dBody (atTop 18)) (.ret (.int ((((b * 16807 + 71).fmod 2147483647).fdiv 41).fmod n))) m' (σ.set i (.list [.int a, .int ((b * 16807 + 71).fmod 2147483647)])) := by
  apply sx_to
  apply sx_next
  · apply s_if_F
    · kln_le
    · simpa using ha
    · exact sx_nil
  · kt_eqs
    kt_eqs
  · rfl
  · rfl
noncomputable def tapR (a b n : Int) : Int := if 0 < a then a.fmod n else (((b * 16807 + 71).fmod 2147483647).fdiv 41).fmod n
noncomputable def tapA (a n : Int) : Int := if 0 < a then a.fdiv n else a
noncomputable def tapB (a b : Int) : Int := if 0 < a then b else (b * 16807 + 71).fmod 2147483647
theorem tapR_bounds (a b : Int) {n : Int} (hn : 0 < n) : 0 ≤ tapR a b n ∧ tapR a b n < n := by
  unfold tapR
  split
  · exact fmod_bounds a hn
  · exact fmod_bounds _ hn
theorem cl_tap {i : Nat} {a b n : Int} (hσ : σ[i]? = some (.list [.int a, .int b])) (hn : 0 < n) (hn2 : n < 1000000) :
    Cl G 1 (.ref 278) [.loc i, .int n] σ (.int (tapR a b n)) (σ.set i (.list [.int (tapA a n), .int (tapB a b)])) := by
  unfold tapR tapA tapB
  by_cases ha : 0 < a
  · rw [if_pos ha, if_pos ha, if_pos ha]
    obtain ⟨m', h⟩ := tap_pos (G := G) hσ hn hn2 ha
    refine cl_def (xs := ["keg", "many"]) ho_law_tap ?_ ?_ ?_ ?_ h ?_ ?_ ?_ ?_ ?_ <;> kqd_all
  · rw [if_neg ha, if_neg ha, if_neg ha]
    obtain ⟨m', h⟩ := tap_neg (G := G) hσ hn hn2 (by kwd_inv)
    refine cl_def (xs := ["keg", "many"]) ho_law_tap ?_ ?_ ?_ ?_ h ?_ ?_ ?_ ?_ ?_ <;> kqd_all

theorem b_new {i r l : Nat} {n : Int} (hσ : σ[i]? = some (.dict [("slots", .int n), ("rows", .loc r), ("labels", .loc l)])) :
    ∃ m', Sx G (cxF 0 "_law_new" (atTop 19) 285 (.ref 284)) [("own", .loc i)] σ (dBody (atTop 19)) (.ret (.int n)) m' (σ.set i (.dict [("slots", .int (n + 1)), ("rows", .loc r), ("labels", .loc l)])) := by
  apply sx_to
  kt_eqs
  kt_eqs
  · exact congrArg (fun x => AF.ret (AV.int x)) (by kwd_inv)
  · rfl
theorem cl_new {i r l : Nat} {n : Int} (hσ : σ[i]? = some (.dict [("slots", .int n), ("rows", .loc r), ("labels", .loc l)])) :
    Cl G 1 (.ref 285) [.loc i] σ (.int n) (σ.set i (.dict [("slots", .int (n + 1)), ("rows", .loc r), ("labels", .loc l)])) := by
  obtain ⟨m', h⟩ := b_new (G := G) hσ
  refine cl_def (xs := ["own"]) ho_law_new ?_ ?_ ?_ ?_ h ?_ ?_ ?_ ?_ ?_ <;> kqd_all
local macro_rules | `(tactic| ktu_offI) => `(tactic| ((with_reducible refine' cl_new ?za); (case za => ktu_offL)))
theorem b_constant {i r l : Nat} {n : Int} {v : AV} {rs : List AV} (hσ : σ[i]? = some (.dict [("slots", .int n), ("rows", .loc r), ("labels", .loc l)])) (hr : σ[r]? = some (.list rs)) (hir : i ≠ r) (hz : rs.length ≤ 1000000) :
    ∃ m', Sx G (cxF 1 "_law_constant" (atTop 20) 292 (.ref 291)) [("own", .loc i), ("value", v)] σ (dBody (atTop 20)) (.ret (.int n)) m'
      ((σ.set i (.dict [("slots", .int (n + 1)), ("rows", .loc r), ("labels", .loc l)])).set r (.list (rs ++ [.tup [.str "const", .int n, v]]))) := by
  apply sx_to
  kt_eqs
  kt_eqs
  kt_eqs
  · rfl
  · rfl
theorem cl_constant {i r l : Nat} {n : Int} {v : AV} {rs : List AV} (hσ : σ[i]? = some (.dict [("slots", .int n), ("rows", .loc r), ("labels", .loc l)])) (hr : σ[r]? = some (.list rs)) (hir : i ≠ r) (hz : rs.length ≤ 1000000) :
    Cl G 2 (.ref 292) [.loc i, v] σ (.int n) ((σ.set i (.dict [("slots", .int (n + 1)), ("rows", .loc r), ("labels", .loc l)])).set r (.list (rs ++ [.tup [.str "const", .int n, v]]))) := by
  obtain ⟨m', h⟩ := b_constant (G := G) hσ hr hir hz
  refine cl_def (xs := ["own", "value"]) ho_law_constant ?_ ?_ ?_ ?_ h ?_ ?_ ?_ ?_ ?_ <;> kqd_all
local macro_rules | `(tactic| ktu_offI) => `(tactic| first | ((with_reducible refine' cl_new ?za); (case za => ktu_offL)) | ((with_reducible refine' cl_constant ?za ?zb ?zc ?zd); (case za => ktu_offL); (case zb => ktu_offL); (case zc => ktu_offL); (case zd => ktu_offL)))
theorem b_called {i r l j : Nat} {n : Int} {v : AV} {rs as : List AV} (hσ : σ[i]? = some (.dict [("slots", .int n), ("rows", .loc r), ("labels", .loc l)])) (hr : σ[r]? = some (.list rs)) (hj : σ[j]? = some (.list as)) (hir : i ≠ r) (hij : i ≠ j) (hrj : r ≠ j) (hz : rs.length ≤ 1000000) (hz2 : as.length ≤ 1000000) :
    ∃ m', Sx G (cxF 2 "_law_called" (atTop 21) 299 (.ref 298)) [("own", .loc i), ("value", v), ("args", .loc j)] σ (dBody (atTop 21)) (.ret (.int (n + 1))) m'
      ((((σ.set i (.dict [("slots", .int (n + 1)), ("rows", .loc r), ("labels", .loc l)])).set r (.list (rs ++ [.tup [.str "const", .int n, v]]))).set i (.dict [("slots", .int (n + 1 + 1)), ("rows", .loc r), ("labels", .loc l)])).set r
        (.list ((rs ++ [.tup [.str "const", .int n, v]]) ++ [.tup [.str "call", .int (n + 1), .int n, .tup as]]))) := by
  apply sx_to
  kt_eqs
  kt_eqs
  kt_eqs
  kt_eqs
  · rfl
  · rfl
theorem cl_called {i r l j : Nat} {n : Int} {v : AV} {rs as : List AV} (hσ : σ[i]? = some (.dict [("slots", .int n), ("rows", .loc r), ("labels", .loc l)])) (hr : σ[r]? = some (.list rs)) (hj : σ[j]? = some (.list as)) (hir : i ≠ r) (hij : i ≠ j) (hrj : r ≠ j) (hz : rs.length ≤ 1000000) (hz2 : as.length ≤ 1000000) :
    Cl G 3 (.ref 299) [.loc i, v, .loc j] σ (.int (n + 1))
      ((((σ.set i (.dict [("slots", .int (n + 1)), ("rows", .loc r), ("labels", .loc l)])).set r (.list (rs ++ [.tup [.str "const", .int n, v]]))).set i (.dict [("slots", .int (n + 1 + 1)), ("rows", .loc r), ("labels", .loc l)])).set r
        (.list ((rs ++ [.tup [.str "const", .int n, v]]) ++ [.tup [.str "call", .int (n + 1), .int n, .tup as]]))) := by
  obtain ⟨m', h⟩ := b_called (G := G) hσ hr hj hir hij hrj hz hz2
  refine cl_def (xs := ["own", "value", "args"]) ho_law_called ?_ ?_ ?_ ?_ h ?_ ?_ ?_ ?_ ?_ <;> kqd_all

/-! is the end open -/
noncomputable def endsB (nm : PySem.Str) : Bool := (pyds [.str "goto", .str "return", .str "rethrow"]).any fun z => PyData.eqv z (pyd (.str nm))
noncomputable def markedB (ls : List AV) (n : Nat) : Bool := (pyds ls).any fun z => PyData.eqv z (pyd (.int n))
noncomputable def opn (rs ls : List AV) : Bool := match rs.getLast? with
  | some (.tup (.str nm :: _)) => markedB ls rs.length || !endsB nm
  | _ => true
noncomputable def rowsOk (rs : List AV) : Prop := rs = [] ∨ ∃ init nm rest, rs = init ++ [.tup (.str nm :: rest)]
theorem cl_lopen {i r l : Nat} {n : Int} {rs ls : List AV} (hσ : σ[i]? = some (.dict [("slots", .int n), ("rows", .loc r), ("labels", .loc l)])) (hr : σ[r]? = some (.list rs)) (hl : σ[l]? = some (.list ls))
    (hz : rs.length ≤ 100000) (hp : pls 9 rs = true) (hp2 : pls 9 ls = true) (ho : rowsOk rs) : ∃ g, Cl G 1 (.ref 311) [.loc i] σ (.bool (opn rs ls)) (σ ++ g) := by
  rcases ho with rfl | ⟨init, nm, rest, rfl⟩
  · refine ⟨[.list []], ?_⟩
    have h : ∃ m', Sx G (cxF 0 "_law_is_open" (atTop 23) 311 (.ref 310)) [("own", .loc i)] σ (dBody (atTop 23)) (.ret (.bool true)) m' (σ ++ [.list []]) := by
      apply sx_to
      apply sx_stop
      apply s_if_T
      · apply tt_bop
        apply at_or_T
        · kln_le
        · rfl
      · rfl
      · kt_eqs
      · intro q; cases q
      · rfl
      · rfl
    obtain ⟨m', h⟩ := h
    refine cl_def (xs := ["own"]) ho_law_is_open ?_ ?_ ?_ ?_ h ?_ ?_ ?_ ?_ rfl <;> kqd_all
  · have ne : PyData.eqv (.list (pyds (init ++ [.tup (.str nm :: rest)]))) (.list (pyds [])) = false := by
      simp only [PyData.eqv, pyds_map, List.map_append, List.map_nil, eqvAll_nil]
      simp
    have hnm := pls_last_nm hp
    have hlast : (init ++ [AV.tup (.str nm :: rest)]).getLast? = some (.tup (.str nm :: rest)) := by simp
    have hz' : init.length < 1000000 := by simp at hz; omega
    cases hm : markedB ls (init ++ [AV.tup (.str nm :: rest)]).length with
    | true =>
      refine ⟨[.list []], ?_⟩
      have h : ∃ m', Sx G (cxF 0 "_law_is_open" (atTop 23) 311 (.ref 310)) [("own", .loc i)] σ (dBody (atTop 23)) (.ret (.bool true)) m' (σ ++ [.list []]) := by
        apply sx_to
        apply sx_stop
        apply s_if_T
        · apply tt_bop
          apply at_or_F
          · kln_le
          · exact ne
          apply at_or_T
          · kln_le
          · exact hm
        · rfl
        · kt_eqs
        · intro q; cases q
        · rfl
        · rfl
      obtain ⟨m', h⟩ := h
      refine cl_def (xs := ["own"]) ho_law_is_open ?_ ?_ ?_ ?_ h ?_ ?_ ?_ ?_ ?_
      case refine_9 => unfold opn; rw [hlast]; simp only [hm, Bool.true_or]; rfl
      all_goals kqd_all
    | false =>
      refine ⟨[.list []] ++ [.list [.str "goto", .str "return", .str "rethrow"]], ?_⟩
      have h : ∃ m', Sx G (cxF 0 "_law_is_open" (atTop 23) 311 (.ref 310)) [("own", .loc i)] σ (dBody (atTop 23)) (.ret (.bool (!endsB nm))) m' (σ ++ ([.list []] ++ [.list [.str "goto", .str "return", .str "rethrow"]])) := by
        apply sx_to
        apply sx_next
        apply s_if_F0
        · apply tt_bop
          apply at_or_F
          · kln_le
          · exact ne
          apply at_or_F
          · kln_le
          · exact hm
          exact at_or_nil
        · rfl
        · apply sx_stop
          · apply s_ret
            apply ev_cmp
            · apply cm_of
              · apply ev_sub
                · apply ev_sub
                  · kpt_turns
                  · kpt_turns
                  · apply it_last
                    · krn_off
                    · exact hz'
                    · intro _ _; rfl
                · kpt_turns
                · kcj_m
              · kpt_turns
              · kpf_c
            · with_unfolding_all rfl
          · intro q; cases q
        · rfl
        · simp
      obtain ⟨m', h⟩ := h
      refine cl_def (xs := ["own"]) ho_law_is_open ?_ ?_ ?_ ?_ h ?_ ?_ ?_ ?_ ?_
      case refine_9 => unfold opn; rw [hlast]; simp only [hm, Bool.false_or]; rfl
      all_goals kqd_all
end SC1b
section SC2
variable {G : Gl} {σ : List AO}
noncomputable abbrev wO (ar n : Int) (r l y : Nat) : AO := .idict [("name", .str "f"), ("arity", .int ar), ("static", .tup [.str "T.1"]), ("captures", .tup [.str "x"]), ("slots", .int n), ("rows", .loc r), ("labels", .loc l), ("ways", .loc y)]

theorem bw_fresh {iw d r l y : Nat} {ar n : Int}  (hw : σ[iw]? = some (.inst 260 d)) (hd : σ[d]? = some (wO ar n r l y)) (h1 : d ≠ iw) :
    ∃ m', Sx G (cxF 0 "Writer.fresh" (inClass 15 1) 180 (.ref 179)) [("self", .loc iw)] σ (dBody (inClass 15 1)) (.ret (.int n)) m' (σ.set d (wO ar (n + 1) r l y)) := by
  apply sx_to
  kt_eqs
  kt_eqs
  · exact congrArg (fun x => AF.ret (AV.int x)) (by kwd_inv)
  · rfl
theorem cw_fresh {iw d r l y : Nat} {ar n : Int}  (hw : σ[iw]? = some (.inst 260 d)) (hd : σ[d]? = some (wO ar n r l y)) (h1 : d ≠ iw) :
    Cl G 1 (.ref 180) [.loc iw] σ (.int n) (σ.set d (wO ar (n + 1) r l y)) := by
  obtain ⟨m', h⟩ := bw_fresh (G := G) hw hd h1
  refine cl_def (xs := ["self"]) ho_Writer_fresh ?_ ?_ ?_ ?_ h ?_ ?_ ?_ ?_ ?_ <;> kqd_all
local macro_rules | `(tactic| ktu_offI) => `(tactic| first | ((with_reducible refine' cw_fresh ?z0 ?z1 ?z2); (case z0 => ktu_offL); (case z1 => ktu_offL); (case z2 => ktu_offL)))
theorem bw_label {iw d r l y : Nat} {ar n : Int} {ls : List AV} (hw : σ[iw]? = some (.inst 260 d)) (hd : σ[d]? = some (wO ar n r l y)) (h1 : d ≠ iw) (hl : σ[l]? = some (.list ls)) (h4 : d ≠ l) (h5 : iw ≠ l) (hzl : ls.length ≤ 1000000) :
    ∃ m', Sx G (cxF 0 "Writer.label" (inClass 15 2) 187 (.ref 186)) [("self", .loc iw)] σ (dBody (inClass 15 2)) (.ret (.int (ls.length : Nat))) m' (σ.set l (.list (ls ++ [.none]))) := by
  apply sx_to
  kt_eqs
  kt_eqs
  · exact congrArg (fun x => AF.ret (AV.int x)) (by simp)
  · rfl
theorem cw_label {iw d r l y : Nat} {ar n : Int} {ls : List AV} (hw : σ[iw]? = some (.inst 260 d)) (hd : σ[d]? = some (wO ar n r l y)) (h1 : d ≠ iw) (hl : σ[l]? = some (.list ls)) (h4 : d ≠ l) (h5 : iw ≠ l) (hzl : ls.length ≤ 1000000) :
    Cl G 1 (.ref 187) [.loc iw] σ (.int (ls.length : Nat)) (σ.set l (.list (ls ++ [.none]))) := by
  obtain ⟨m', h⟩ := bw_label (G := G) hw hd h1 hl h4 h5 hzl
  refine cl_def (xs := ["self"]) ho_Writer_label ?_ ?_ ?_ ?_ h ?_ ?_ ?_ ?_ ?_ <;> kqd_all
local macro_rules | `(tactic| ktu_offI) => `(tactic| first | ((with_reducible refine' cw_fresh ?z0 ?z1 ?z2); (case z0 => ktu_offL); (case z1 => ktu_offL); (case z2 => ktu_offL)) | ((with_reducible refine' cw_label ?z0 ?z1 ?z2 ?z3 ?z4 ?z5 ?z6); (case z0 => ktu_offL); (case z1 => ktu_offL); (case z2 => ktu_offL); (case z3 => ktu_offL); (case z4 => ktu_offL); (case z5 => ktu_offL); (case z6 => ktu_offL)))
theorem bw_mark {iw d r l y : Nat} {ar n : Int} {rs ls : List AV} {k : Int} (hw : σ[iw]? = some (.inst 260 d)) (hd : σ[d]? = some (wO ar n r l y)) (h1 : d ≠ iw) (hr : σ[r]? = some (.list rs)) (h2 : d ≠ r) (h3 : iw ≠ r) (hz : rs.length ≤ 1000000) (hl : σ[l]? = some (.list ls)) (h4 : d ≠ l) (h5 : iw ≠ l) (hzl : ls.length ≤ 1000000) (h6 : r ≠ l) (k0 : 0 ≤ k) (k1 : k < (ls.length : Int)) :
    ∃ m', Sx G (cxF 0 "Writer.mark" (inClass 15 3) 194 (.ref 193)) [("self", .loc iw), ("label", (.int k))] σ (dBody (inClass 15 3)) .next m' (σ.set l (.list (ls.set k.toNat (.int (rs.length : Nat))))) := by
  apply sx_to
  kt_eqs
  exact sx_nil
  · rfl
  · rfl
theorem cw_mark {iw d r l y : Nat} {ar n : Int} {rs ls : List AV} {k : Int} (hw : σ[iw]? = some (.inst 260 d)) (hd : σ[d]? = some (wO ar n r l y)) (h1 : d ≠ iw) (hr : σ[r]? = some (.list rs)) (h2 : d ≠ r) (h3 : iw ≠ r) (hz : rs.length ≤ 1000000) (hl : σ[l]? = some (.list ls)) (h4 : d ≠ l) (h5 : iw ≠ l) (hzl : ls.length ≤ 1000000) (h6 : r ≠ l) (k0 : 0 ≤ k) (k1 : k < (ls.length : Int)) :
    Cl G 1 (.ref 194) [.loc iw, (.int k)] σ .none (σ.set l (.list (ls.set k.toNat (.int (rs.length : Nat))))) := by
  obtain ⟨m', h⟩ := bw_mark (G := G) hw hd h1 hr h2 h3 hz hl h4 h5 hzl h6 k0 k1
  refine cl_def (xs := ["self", "label"]) ho_Writer_mark ?_ ?_ ?_ ?_ h ?_ ?_ ?_ ?_ ?_ <;> kqd_all
local macro_rules | `(tactic| ktu_offI) => `(tactic| first | ((with_reducible refine' cw_fresh ?z0 ?z1 ?z2); (case z0 => ktu_offL); (case z1 => ktu_offL); (case z2 => ktu_offL)) | ((with_reducible refine' cw_label ?z0 ?z1 ?z2 ?z3 ?z4 ?z5 ?z6); (case z0 => ktu_offL); (case z1 => ktu_offL); (case z2 => ktu_offL); (case z3 => ktu_offL); (case z4 => ktu_offL); (case z5 => ktu_offL); (case z6 => ktu_offL)) | ((with_reducible refine' cw_mark ?z0 ?z1 ?z2 ?z3 ?z4 ?z5 ?z6 ?z7 ?z8 ?z9 ?z10 ?z11 ?z12 ?z13); (case z0 => ktu_offL); (case z1 => ktu_offL); (case z2 => ktu_offL); (case z3 => ktu_offL); (case z4 => ktu_offL); (case z5 => ktu_offL); (case z6 => ktu_offL); (case z7 => ktu_offL); (case z8 => ktu_offL); (case z9 => ktu_offL); (case z10 => ktu_offL); (case z11 => ktu_offL); (case z12 => ktu_offL); (case z13 => ktu_offL)))
theorem bw_emit {iw d r l y : Nat} {ar n : Int} {rs : List AV} {v : AV} (hw : σ[iw]? = some (.inst 260 d)) (hd : σ[d]? = some (wO ar n r l y)) (h1 : d ≠ iw) (hr : σ[r]? = some (.list rs)) (h2 : d ≠ r) (h3 : iw ≠ r) (hz : rs.length ≤ 1000000) :
    ∃ m', Sx G (cxF 0 "Writer.emit" (inClass 15 4) 201 (.ref 200)) [("self", .loc iw), ("row", v)] σ (dBody (inClass 15 4)) .next m' (σ.set r (.list (rs ++ [v]))) := by
  apply sx_to
  kt_eqs
  exact sx_nil
  · rfl
  · rfl
theorem cw_emit {iw d r l y : Nat} {ar n : Int} {rs : List AV} {v : AV} (hw : σ[iw]? = some (.inst 260 d)) (hd : σ[d]? = some (wO ar n r l y)) (h1 : d ≠ iw) (hr : σ[r]? = some (.list rs)) (h2 : d ≠ r) (h3 : iw ≠ r) (hz : rs.length ≤ 1000000) :
    Cl G 1 (.ref 201) [.loc iw, v] σ .none (σ.set r (.list (rs ++ [v]))) := by
  obtain ⟨m', h⟩ := bw_emit (G := G) hw hd h1 hr h2 h3 hz
  refine cl_def (xs := ["self", "row"]) ho_Writer_emit ?_ ?_ ?_ ?_ h ?_ ?_ ?_ ?_ ?_ <;> kqd_all
local macro_rules | `(tactic| ktu_offI) => `(tactic| first | ((with_reducible refine' cw_fresh ?z0 ?z1 ?z2); (case z0 => ktu_offL); (case z1 => ktu_offL); (case z2 => ktu_offL)) | ((with_reducible refine' cw_label ?z0 ?z1 ?z2 ?z3 ?z4 ?z5 ?z6); (case z0 => ktu_offL); (case z1 => ktu_offL); (case z2 => ktu_offL); (case z3 => ktu_offL); (case z4 => ktu_offL); (case z5 => ktu_offL); (case z6 => ktu_offL)) | ((with_reducible refine' cw_mark ?z0 ?z1 ?z2 ?z3 ?z4 ?z5 ?z6 ?z7 ?z8 ?z9 ?z10 ?z11 ?z12 ?z13); (case z0 => ktu_offL); (case z1 => ktu_offL); (case z2 => ktu_offL); (case z3 => ktu_offL); (case z4 => ktu_offL); (case z5 => ktu_offL); (case z6 => ktu_offL); (case z7 => ktu_offL); (case z8 => ktu_offL); (case z9 => ktu_offL); (case z10 => ktu_offL); (case z11 => ktu_offL); (case z12 => ktu_offL); (case z13 => ktu_offL)) | ((with_reducible refine' cw_emit ?z0 ?z1 ?z2 ?z3 ?z4 ?z5 ?z6); (case z0 => ktu_offL); (case z1 => ktu_offL); (case z2 => ktu_offL); (case z3 => ktu_offL); (case z4 => ktu_offL); (case z5 => ktu_offL); (case z6 => ktu_offL)))
theorem bw_constant {iw d r l y : Nat} {ar n : Int} {rs : List AV} {v : AV} (hw : σ[iw]? = some (.inst 260 d)) (hd : σ[d]? = some (wO ar n r l y)) (h1 : d ≠ iw) (hr : σ[r]? = some (.list rs)) (h2 : d ≠ r) (h3 : iw ≠ r) (hz : rs.length ≤ 1000000) :
    ∃ m', Sx G (cxF 1 "Writer.constant" (inClass 15 5) 208 (.ref 207)) [("self", .loc iw), ("value", v)] σ (dBody (inClass 15 5)) (.ret (.int n)) m' ((σ.set d (wO ar (n + 1) r l y)).set r (.list (rs ++ [.tup [.str "const", .int n, v]]))) := by
  apply sx_to
  kt_eqs
  kt_eqs
  kt_eqs
  · rfl
  · rfl
theorem cw_constant {iw d r l y : Nat} {ar n : Int} {rs : List AV} {v : AV} (hw : σ[iw]? = some (.inst 260 d)) (hd : σ[d]? = some (wO ar n r l y)) (h1 : d ≠ iw) (hr : σ[r]? = some (.list rs)) (h2 : d ≠ r) (h3 : iw ≠ r) (hz : rs.length ≤ 1000000) :
    Cl G 2 (.ref 208) [.loc iw, v] σ (.int n) ((σ.set d (wO ar (n + 1) r l y)).set r (.list (rs ++ [.tup [.str "const", .int n, v]]))) := by
  obtain ⟨m', h⟩ := bw_constant (G := G) hw hd h1 hr h2 h3 hz
  refine cl_def (xs := ["self", "value"]) ho_Writer_constant ?_ ?_ ?_ ?_ h ?_ ?_ ?_ ?_ ?_ <;> kqd_all
local macro_rules | `(tactic| ktu_offI) => `(tactic| first | ((with_reducible refine' cw_fresh ?z0 ?z1 ?z2); (case z0 => ktu_offL); (case z1 => ktu_offL); (case z2 => ktu_offL)) | ((with_reducible refine' cw_label ?z0 ?z1 ?z2 ?z3 ?z4 ?z5 ?z6); (case z0 => ktu_offL); (case z1 => ktu_offL); (case z2 => ktu_offL); (case z3 => ktu_offL); (case z4 => ktu_offL); (case z5 => ktu_offL); (case z6 => ktu_offL)) | ((with_reducible refine' cw_mark ?z0 ?z1 ?z2 ?z3 ?z4 ?z5 ?z6 ?z7 ?z8 ?z9 ?z10 ?z11 ?z12 ?z13); (case z0 => ktu_offL); (case z1 => ktu_offL); (case z2 => ktu_offL); (case z3 => ktu_offL); (case z4 => ktu_offL); (case z5 => ktu_offL); (case z6 => ktu_offL); (case z7 => ktu_offL); (case z8 => ktu_offL); (case z9 => ktu_offL); (case z10 => ktu_offL); (case z11 => ktu_offL); (case z12 => ktu_offL); (case z13 => ktu_offL)) | ((with_reducible refine' cw_emit ?z0 ?z1 ?z2 ?z3 ?z4 ?z5 ?z6); (case z0 => ktu_offL); (case z1 => ktu_offL); (case z2 => ktu_offL); (case z3 => ktu_offL); (case z4 => ktu_offL); (case z5 => ktu_offL); (case z6 => ktu_offL)) | ((with_reducible refine' cw_constant ?z0 ?z1 ?z2 ?z3 ?z4 ?z5 ?z6); (case z0 => ktu_offL); (case z1 => ktu_offL); (case z2 => ktu_offL); (case z3 => ktu_offL); (case z4 => ktu_offL); (case z5 => ktu_offL); (case z6 => ktu_offL)))
theorem bw_call {iw d r l y : Nat} {ar n : Int} {j : Nat} {rs as : List AV} {v : AV} (hw : σ[iw]? = some (.inst 260 d)) (hd : σ[d]? = some (wO ar n r l y)) (h1 : d ≠ iw) (hr : σ[r]? = some (.list rs)) (h2 : d ≠ r) (h3 : iw ≠ r) (hz : rs.length ≤ 1000000) (hj : σ[j]? = some (.list as)) (h7 : d ≠ j) (h8 : r ≠ j) (hz2 : as.length ≤ 1000000) :
    ∃ m', Sx G (cxF 1 "Writer.call" (inClass 15 6) 215 (.ref 214)) [("self", .loc iw), ("callee", v), ("args", (.loc j))] σ (dBody (inClass 15 6)) (.ret (.int n)) m' ((σ.set d (wO ar (n + 1) r l y)).set r (.list (rs ++ [.tup [.str "call", .int n, v, .tup as]]))) := by
  apply sx_to
  kt_eqs
  kt_eqs
  kt_eqs
  · rfl
  · rfl
theorem cw_call {iw d r l y : Nat} {ar n : Int} {j : Nat} {rs as : List AV} {v : AV} (hw : σ[iw]? = some (.inst 260 d)) (hd : σ[d]? = some (wO ar n r l y)) (h1 : d ≠ iw) (hr : σ[r]? = some (.list rs)) (h2 : d ≠ r) (h3 : iw ≠ r) (hz : rs.length ≤ 1000000) (hj : σ[j]? = some (.list as)) (h7 : d ≠ j) (h8 : r ≠ j) (hz2 : as.length ≤ 1000000) :
    Cl G 2 (.ref 215) [.loc iw, v, (.loc j)] σ (.int n) ((σ.set d (wO ar (n + 1) r l y)).set r (.list (rs ++ [.tup [.str "call", .int n, v, .tup as]]))) := by
  obtain ⟨m', h⟩ := bw_call (G := G) hw hd h1 hr h2 h3 hz hj h7 h8 hz2
  refine cl_def (xs := ["self", "callee", "args"]) ho_Writer_call ?_ ?_ ?_ ?_ h ?_ ?_ ?_ ?_ ?_ <;> kqd_all
local macro_rules | `(tactic| ktu_offI) => `(tactic| first | ((with_reducible refine' cw_fresh ?z0 ?z1 ?z2); (case z0 => ktu_offL); (case z1 => ktu_offL); (case z2 => ktu_offL)) | ((with_reducible refine' cw_label ?z0 ?z1 ?z2 ?z3 ?z4 ?z5 ?z6); (case z0 => ktu_offL); (case z1 => ktu_offL); (case z2 => ktu_offL); (case z3 => ktu_offL); (case z4 => ktu_offL); (case z5 => ktu_offL); (case z6 => ktu_offL)) | ((with_reducible refine' cw_mark ?z0 ?z1 ?z2 ?z3 ?z4 ?z5 ?z6 ?z7 ?z8 ?z9 ?z10 ?z11 ?z12 ?z13); (case z0 => ktu_offL); (case z1 => ktu_offL); (case z2 => ktu_offL); (case z3 => ktu_offL); (case z4 => ktu_offL); (case z5 => ktu_offL); (case z6 => ktu_offL); (case z7 => ktu_offL); (case z8 => ktu_offL); (case z9 => ktu_offL); (case z10 => ktu_offL); (case z11 => ktu_offL); (case z12 => ktu_offL); (case z13 => ktu_offL)) | ((with_reducible refine' cw_emit ?z0 ?z1 ?z2 ?z3 ?z4 ?z5 ?z6); (case z0 => ktu_offL); (case z1 => ktu_offL); (case z2 => ktu_offL); (case z3 => ktu_offL); (case z4 => ktu_offL); (case z5 => ktu_offL); (case z6 => ktu_offL)) | ((with_reducible refine' cw_constant ?z0 ?z1 ?z2 ?z3 ?z4 ?z5 ?z6); (case z0 => ktu_offL); (case z1 => ktu_offL); (case z2 => ktu_offL); (case z3 => ktu_offL); (case z4 => ktu_offL); (case z5 => ktu_offL); (case z6 => ktu_offL)) | ((with_reducible refine' cw_call ?z0 ?z1 ?z2 ?z3 ?z4 ?z5 ?z6 ?z7 ?z8 ?z9 ?z10); (case z0 => ktu_offL); (case z1 => ktu_offL); (case z2 => ktu_offL); (case z3 => ktu_offL); (case z4 => ktu_offL); (case z5 => ktu_offL); (case z6 => ktu_offL); (case z7 => ktu_offL); (case z8 => ktu_offL); (case z9 => ktu_offL); (case z10 => ktu_offL)))
theorem bw_builtin {iw d r l y : Nat} {ar n : Int} {j : Nat} {rs as : List AV} {v : AV} (hw : σ[iw]? = some (.inst 260 d)) (hd : σ[d]? = some (wO ar n r l y)) (h1 : d ≠ iw) (hr : σ[r]? = some (.list rs)) (h2 : d ≠ r) (h3 : iw ≠ r) (hz : rs.length < 1000000) (hj : σ[j]? = some (.list as)) (h7 : d ≠ j) (h8 : r ≠ j) (hz2 : as.length ≤ 1000000) :
    ∃ m', Sx G (cxF 2 "Writer.builtin" (inClass 15 7) 222 (.ref 221)) [("self", .loc iw), ("name", v), ("args", (.loc j))] σ (dBody (inClass 15 7)) (.ret (.int (n + 1))) m' ((((σ.set d (wO ar (n + 1) r l y)).set r (.list (rs ++ [.tup [.str "const", .int n, .tup [.str "builtin", v]]]))).set d (wO ar (n + 1 + 1) r l y)).set r (.list ((rs ++ [.tup [.str "const", .int n, .tup [.str "builtin", v]]]) ++ [.tup [.str "call", .int (n + 1), .int n, .tup as]]))) := by
  apply sx_to
  kt_eqs
  · rfl
  · rfl
theorem cw_builtin {iw d r l y : Nat} {ar n : Int} {j : Nat} {rs as : List AV} {v : AV} (hw : σ[iw]? = some (.inst 260 d)) (hd : σ[d]? = some (wO ar n r l y)) (h1 : d ≠ iw) (hr : σ[r]? = some (.list rs)) (h2 : d ≠ r) (h3 : iw ≠ r) (hz : rs.length < 1000000) (hj : σ[j]? = some (.list as)) (h7 : d ≠ j) (h8 : r ≠ j) (hz2 : as.length ≤ 1000000) :
    Cl G 3 (.ref 222) [.loc iw, v, (.loc j)] σ (.int (n + 1)) ((((σ.set d (wO ar (n + 1) r l y)).set r (.list (rs ++ [.tup [.str "const", .int n, .tup [.str "builtin", v]]]))).set d (wO ar (n + 1 + 1) r l y)).set r (.list ((rs ++ [.tup [.str "const", .int n, .tup [.str "builtin", v]]]) ++ [.tup [.str "call", .int (n + 1), .int n, .tup as]]))) := by
  obtain ⟨m', h⟩ := bw_builtin (G := G) hw hd h1 hr h2 h3 hz hj h7 h8 hz2
  refine cl_def (xs := ["self", "name", "args"]) ho_Writer_builtin ?_ ?_ ?_ ?_ h ?_ ?_ ?_ ?_ ?_ <;> kqd_all
local macro_rules | `(tactic| ktu_offI) => `(tactic| first | ((with_reducible refine' cw_fresh ?z0 ?z1 ?z2); (case z0 => ktu_offL); (case z1 => ktu_offL); (case z2 => ktu_offL)) | ((with_reducible refine' cw_label ?z0 ?z1 ?z2 ?z3 ?z4 ?z5 ?z6); (case z0 => ktu_offL); (case z1 => ktu_offL); (case z2 => ktu_offL); (case z3 => ktu_offL); (case z4 => ktu_offL); (case z5 => ktu_offL); (case z6 => ktu_offL)) | ((with_reducible refine' cw_mark ?z0 ?z1 ?z2 ?z3 ?z4 ?z5 ?z6 ?z7 ?z8 ?z9 ?z10 ?z11 ?z12 ?z13); (case z0 => ktu_offL); (case z1 => ktu_offL); (case z2 => ktu_offL); (case z3 => ktu_offL); (case z4 => ktu_offL); (case z5 => ktu_offL); (case z6 => ktu_offL); (case z7 => ktu_offL); (case z8 => ktu_offL); (case z9 => ktu_offL); (case z10 => ktu_offL); (case z11 => ktu_offL); (case z12 => ktu_offL); (case z13 => ktu_offL)) | ((with_reducible refine' cw_emit ?z0 ?z1 ?z2 ?z3 ?z4 ?z5 ?z6); (case z0 => ktu_offL); (case z1 => ktu_offL); (case z2 => ktu_offL); (case z3 => ktu_offL); (case z4 => ktu_offL); (case z5 => ktu_offL); (case z6 => ktu_offL)) | ((with_reducible refine' cw_constant ?z0 ?z1 ?z2 ?z3 ?z4 ?z5 ?z6); (case z0 => ktu_offL); (case z1 => ktu_offL); (case z2 => ktu_offL); (case z3 => ktu_offL); (case z4 => ktu_offL); (case z5 => ktu_offL); (case z6 => ktu_offL)) | ((with_reducible refine' cw_call ?z0 ?z1 ?z2 ?z3 ?z4 ?z5 ?z6 ?z7 ?z8 ?z9 ?z10); (case z0 => ktu_offL); (case z1 => ktu_offL); (case z2 => ktu_offL); (case z3 => ktu_offL); (case z4 => ktu_offL); (case z5 => ktu_offL); (case z6 => ktu_offL); (case z7 => ktu_offL); (case z8 => ktu_offL); (case z9 => ktu_offL); (case z10 => ktu_offL)) | ((with_reducible refine' cw_builtin ?z0 ?z1 ?z2 ?z3 ?z4 ?z5 ?z6 ?z7 ?z8 ?z9 ?z10); (case z0 => ktu_offL); (case z1 => ktu_offL); (case z2 => ktu_offL); (case z3 => ktu_offL); (case z4 => ktu_offL); (case z5 => ktu_offL); (case z6 => ktu_offL); (case z7 => ktu_offL); (case z8 => ktu_offL); (case z9 => ktu_offL); (case z10 => ktu_offL)))
theorem bw_base {iw d r l y : Nat} {ar n : Int} {j : Nat} {rs as : List AV} {v : AV} (hw : σ[iw]? = some (.inst 260 d)) (hd : σ[d]? = some (wO ar n r l y)) (h1 : d ≠ iw) (hr : σ[r]? = some (.list rs)) (h2 : d ≠ r) (h3 : iw ≠ r) (hz : rs.length < 1000000) (hj : σ[j]? = some (.list as)) (h7 : d ≠ j) (h8 : r ≠ j) (hz2 : as.length ≤ 1000000) :
    ∃ m', Sx G (cxF 2 "Writer.base" (inClass 15 8) 229 (.ref 228)) [("self", .loc iw), ("name", v), ("args", (.loc j))] σ (dBody (inClass 15 8)) (.ret (.int (n + 1))) m' ((((σ.set d (wO ar (n + 1) r l y)).set r (.list (rs ++ [.tup [.str "const", .int n, .tup [.str "fun", v]]]))).set d (wO ar (n + 1 + 1) r l y)).set r (.list ((rs ++ [.tup [.str "const", .int n, .tup [.str "fun", v]]]) ++ [.tup [.str "call", .int (n + 1), .int n, .tup as]]))) := by
  apply sx_to
  kt_eqs
  · rfl
  · rfl
theorem cw_base {iw d r l y : Nat} {ar n : Int} {j : Nat} {rs as : List AV} {v : AV} (hw : σ[iw]? = some (.inst 260 d)) (hd : σ[d]? = some (wO ar n r l y)) (h1 : d ≠ iw) (hr : σ[r]? = some (.list rs)) (h2 : d ≠ r) (h3 : iw ≠ r) (hz : rs.length < 1000000) (hj : σ[j]? = some (.list as)) (h7 : d ≠ j) (h8 : r ≠ j) (hz2 : as.length ≤ 1000000) :
    Cl G 3 (.ref 229) [.loc iw, v, (.loc j)] σ (.int (n + 1)) ((((σ.set d (wO ar (n + 1) r l y)).set r (.list (rs ++ [.tup [.str "const", .int n, .tup [.str "fun", v]]]))).set d (wO ar (n + 1 + 1) r l y)).set r (.list ((rs ++ [.tup [.str "const", .int n, .tup [.str "fun", v]]]) ++ [.tup [.str "call", .int (n + 1), .int n, .tup as]]))) := by
  obtain ⟨m', h⟩ := bw_base (G := G) hw hd h1 hr h2 h3 hz hj h7 h8 hz2
  refine cl_def (xs := ["self", "name", "args"]) ho_Writer_base ?_ ?_ ?_ ?_ h ?_ ?_ ?_ ?_ ?_ <;> kqd_all
local macro_rules | `(tactic| ktu_offI) => `(tactic| first | ((with_reducible refine' cw_fresh ?z0 ?z1 ?z2); (case z0 => ktu_offL); (case z1 => ktu_offL); (case z2 => ktu_offL)) | ((with_reducible refine' cw_label ?z0 ?z1 ?z2 ?z3 ?z4 ?z5 ?z6); (case z0 => ktu_offL); (case z1 => ktu_offL); (case z2 => ktu_offL); (case z3 => ktu_offL); (case z4 => ktu_offL); (case z5 => ktu_offL); (case z6 => ktu_offL)) | ((with_reducible refine' cw_mark ?z0 ?z1 ?z2 ?z3 ?z4 ?z5 ?z6 ?z7 ?z8 ?z9 ?z10 ?z11 ?z12 ?z13); (case z0 => ktu_offL); (case z1 => ktu_offL); (case z2 => ktu_offL); (case z3 => ktu_offL); (case z4 => ktu_offL); (case z5 => ktu_offL); (case z6 => ktu_offL); (case z7 => ktu_offL); (case z8 => ktu_offL); (case z9 => ktu_offL); (case z10 => ktu_offL); (case z11 => ktu_offL); (case z12 => ktu_offL); (case z13 => ktu_offL)) | ((with_reducible refine' cw_emit ?z0 ?z1 ?z2 ?z3 ?z4 ?z5 ?z6); (case z0 => ktu_offL); (case z1 => ktu_offL); (case z2 => ktu_offL); (case z3 => ktu_offL); (case z4 => ktu_offL); (case z5 => ktu_offL); (case z6 => ktu_offL)) | ((with_reducible refine' cw_constant ?z0 ?z1 ?z2 ?z3 ?z4 ?z5 ?z6); (case z0 => ktu_offL); (case z1 => ktu_offL); (case z2 => ktu_offL); (case z3 => ktu_offL); (case z4 => ktu_offL); (case z5 => ktu_offL); (case z6 => ktu_offL)) | ((with_reducible refine' cw_call ?z0 ?z1 ?z2 ?z3 ?z4 ?z5 ?z6 ?z7 ?z8 ?z9 ?z10); (case z0 => ktu_offL); (case z1 => ktu_offL); (case z2 => ktu_offL); (case z3 => ktu_offL); (case z4 => ktu_offL); (case z5 => ktu_offL); (case z6 => ktu_offL); (case z7 => ktu_offL); (case z8 => ktu_offL); (case z9 => ktu_offL); (case z10 => ktu_offL)) | ((with_reducible refine' cw_builtin ?z0 ?z1 ?z2 ?z3 ?z4 ?z5 ?z6 ?z7 ?z8 ?z9 ?z10); (case z0 => ktu_offL); (case z1 => ktu_offL); (case z2 => ktu_offL); (case z3 => ktu_offL); (case z4 => ktu_offL); (case z5 => ktu_offL); (case z6 => ktu_offL); (case z7 => ktu_offL); (case z8 => ktu_offL); (case z9 => ktu_offL); (case z10 => ktu_offL)) | ((with_reducible refine' cw_base ?z0 ?z1 ?z2 ?z3 ?z4 ?z5 ?z6 ?z7 ?z8 ?z9 ?z10); (case z0 => ktu_offL); (case z1 => ktu_offL); (case z2 => ktu_offL); (case z3 => ktu_offL); (case z4 => ktu_offL); (case z5 => ktu_offL); (case z6 => ktu_offL); (case z7 => ktu_offL); (case z8 => ktu_offL); (case z9 => ktu_offL); (case z10 => ktu_offL)))
theorem bw_copied {iw d r l y : Nat} {ar n : Int} {rs : List AV} {v : AV} (hw : σ[iw]? = some (.inst 260 d)) (hd : σ[d]? = some (wO ar n r l y)) (h1 : d ≠ iw) (hr : σ[r]? = some (.list rs)) (h2 : d ≠ r) (h3 : iw ≠ r) (hz : rs.length ≤ 1000000) :
    ∃ m', Sx G (cxF 1 "Writer.copied" (inClass 15 9) 236 (.ref 235)) [("self", .loc iw), ("register", v)] σ (dBody (inClass 15 9)) (.ret (.int n)) m' ((σ.set d (wO ar (n + 1) r l y)).set r (.list (rs ++ [.tup [.str "move", .int n, v]]))) := by
  apply sx_to
  kt_eqs
  kt_eqs
  kt_eqs
  · rfl
  · rfl
theorem cw_copied {iw d r l y : Nat} {ar n : Int} {rs : List AV} {v : AV} (hw : σ[iw]? = some (.inst 260 d)) (hd : σ[d]? = some (wO ar n r l y)) (h1 : d ≠ iw) (hr : σ[r]? = some (.list rs)) (h2 : d ≠ r) (h3 : iw ≠ r) (hz : rs.length ≤ 1000000) :
    Cl G 2 (.ref 236) [.loc iw, v] σ (.int n) ((σ.set d (wO ar (n + 1) r l y)).set r (.list (rs ++ [.tup [.str "move", .int n, v]]))) := by
  obtain ⟨m', h⟩ := bw_copied (G := G) hw hd h1 hr h2 h3 hz
  refine cl_def (xs := ["self", "register"]) ho_Writer_copied ?_ ?_ ?_ ?_ h ?_ ?_ ?_ ?_ ?_ <;> kqd_all
local macro_rules | `(tactic| ktu_offI) => `(tactic| first | ((with_reducible refine' cw_fresh ?z0 ?z1 ?z2); (case z0 => ktu_offL); (case z1 => ktu_offL); (case z2 => ktu_offL)) | ((with_reducible refine' cw_label ?z0 ?z1 ?z2 ?z3 ?z4 ?z5 ?z6); (case z0 => ktu_offL); (case z1 => ktu_offL); (case z2 => ktu_offL); (case z3 => ktu_offL); (case z4 => ktu_offL); (case z5 => ktu_offL); (case z6 => ktu_offL)) | ((with_reducible refine' cw_mark ?z0 ?z1 ?z2 ?z3 ?z4 ?z5 ?z6 ?z7 ?z8 ?z9 ?z10 ?z11 ?z12 ?z13); (case z0 => ktu_offL); (case z1 => ktu_offL); (case z2 => ktu_offL); (case z3 => ktu_offL); (case z4 => ktu_offL); (case z5 => ktu_offL); (case z6 => ktu_offL); (case z7 => ktu_offL); (case z8 => ktu_offL); (case z9 => ktu_offL); (case z10 => ktu_offL); (case z11 => ktu_offL); (case z12 => ktu_offL); (case z13 => ktu_offL)) | ((with_reducible refine' cw_emit ?z0 ?z1 ?z2 ?z3 ?z4 ?z5 ?z6); (case z0 => ktu_offL); (case z1 => ktu_offL); (case z2 => ktu_offL); (case z3 => ktu_offL); (case z4 => ktu_offL); (case z5 => ktu_offL); (case z6 => ktu_offL)) | ((with_reducible refine' cw_constant ?z0 ?z1 ?z2 ?z3 ?z4 ?z5 ?z6); (case z0 => ktu_offL); (case z1 => ktu_offL); (case z2 => ktu_offL); (case z3 => ktu_offL); (case z4 => ktu_offL); (case z5 => ktu_offL); (case z6 => ktu_offL)) | ((with_reducible refine' cw_call ?z0 ?z1 ?z2 ?z3 ?z4 ?z5 ?z6 ?z7 ?z8 ?z9 ?z10); (case z0 => ktu_offL); (case z1 => ktu_offL); (case z2 => ktu_offL); (case z3 => ktu_offL); (case z4 => ktu_offL); (case z5 => ktu_offL); (case z6 => ktu_offL); (case z7 => ktu_offL); (case z8 => ktu_offL); (case z9 => ktu_offL); (case z10 => ktu_offL)) | ((with_reducible refine' cw_builtin ?z0 ?z1 ?z2 ?z3 ?z4 ?z5 ?z6 ?z7 ?z8 ?z9 ?z10); (case z0 => ktu_offL); (case z1 => ktu_offL); (case z2 => ktu_offL); (case z3 => ktu_offL); (case z4 => ktu_offL); (case z5 => ktu_offL); (case z6 => ktu_offL); (case z7 => ktu_offL); (case z8 => ktu_offL); (case z9 => ktu_offL); (case z10 => ktu_offL)) | ((with_reducible refine' cw_base ?z0 ?z1 ?z2 ?z3 ?z4 ?z5 ?z6 ?z7 ?z8 ?z9 ?z10); (case z0 => ktu_offL); (case z1 => ktu_offL); (case z2 => ktu_offL); (case z3 => ktu_offL); (case z4 => ktu_offL); (case z5 => ktu_offL); (case z6 => ktu_offL); (case z7 => ktu_offL); (case z8 => ktu_offL); (case z9 => ktu_offL); (case z10 => ktu_offL)) | ((with_reducible refine' cw_copied ?z0 ?z1 ?z2 ?z3 ?z4 ?z5 ?z6); (case z0 => ktu_offL); (case z1 => ktu_offL); (case z2 => ktu_offL); (case z3 => ktu_offL); (case z4 => ktu_offL); (case z5 => ktu_offL); (case z6 => ktu_offL)))
end SC2
section SC3
variable {G : Gl} {σ : List AO}
/-! Writer.is_open -/
theorem cw_is_open {iw d r l y : Nat} {ar n : Int} {rs ls : List AV} (hw : σ[iw]? = some (.inst 260 d)) (hd : σ[d]? = some (wO ar n r l y)) (hr : σ[r]? = some (.list rs)) (hl : σ[l]? = some (.list ls))
    (hz : rs.length ≤ 100000) (hp : pls 9 rs = true) (hp2 : pls 9 ls = true) (ho : rowsOk rs) : ∃ g, Cl G 1 (.ref 243) [.loc iw] σ (.bool (opn rs ls)) (σ ++ g) := by
  rcases ho with rfl | ⟨init, nm, rest, rfl⟩
  · refine ⟨[.list []], ?_⟩
    have h : ∃ m', Sx G (cxF 0 "Writer.is_open" (inClass 15 10) 243 (.ref 242)) [("self", .loc iw)] σ (dBody (inClass 15 10)) (.ret (.bool true)) m' (σ ++ [.list []]) := by
      apply sx_to
      apply sx_stop
      apply s_if_T
      · apply tt_bop
        apply at_or_T
        · kln_le
        · rfl
      · rfl
      · kt_eqs
      · intro q; cases q
      · rfl
      · rfl
    obtain ⟨m', h⟩ := h
    refine cl_def (xs := ["self"]) ho_Writer_is_open ?_ ?_ ?_ ?_ h ?_ ?_ ?_ ?_ rfl <;> kqd_all
  · have ne : PyData.eqv (.list (pyds (init ++ [.tup (.str nm :: rest)]))) (.list (pyds [])) = false := by
      simp only [PyData.eqv, pyds_map, List.map_append, List.map_nil, eqvAll_nil]
      simp
    have hnm := pls_last_nm hp
    have hlast : (init ++ [AV.tup (.str nm :: rest)]).getLast? = some (.tup (.str nm :: rest)) := by simp
    have hz' : init.length < 1000000 := by simp at hz; omega
    cases hm : markedB ls (init ++ [AV.tup (.str nm :: rest)]).length with
    | true =>
      refine ⟨[.list []], ?_⟩
      have h : ∃ m', Sx G (cxF 0 "Writer.is_open" (inClass 15 10) 243 (.ref 242)) [("self", .loc iw)] σ (dBody (inClass 15 10)) (.ret (.bool true)) m' (σ ++ [.list []]) := by
        apply sx_to
        apply sx_stop
        apply s_if_T
        · apply tt_bop
          apply at_or_F
          · kln_le
          · exact ne
          apply at_or_T
          · kln_le
          · exact hm
        · rfl
        · kt_eqs
        · intro q; cases q
        · rfl
        · rfl
      obtain ⟨m', h⟩ := h
      refine cl_def (xs := ["self"]) ho_Writer_is_open ?_ ?_ ?_ ?_ h ?_ ?_ ?_ ?_ ?_
      case refine_9 => unfold opn; rw [hlast]; simp only [hm, Bool.true_or]; rfl
      all_goals kqd_all
    | false =>
      refine ⟨[.list []], ?_⟩
      have h : ∃ m', Sx G (cxF 0 "Writer.is_open" (inClass 15 10) 243 (.ref 242)) [("self", .loc iw)] σ (dBody (inClass 15 10)) (.ret (.bool (!endsB nm))) m' (σ ++ [.list []]) := by
        apply sx_to
        apply sx_next
        apply s_if_F0
        · apply tt_bop
          apply at_or_F
          · kln_le
          · exact ne
          apply at_or_F
          · kln_le
          · exact hm
          exact at_or_nil
        · rfl
        · apply sx_stop
          · apply s_ret
            apply ev_cmp
            · apply cm_of
              · apply ev_sub
                · apply ev_sub
                  · kpt_turns
                  · kpt_turns
                  · apply it_last
                    · krn_off
                    · exact hz'
                    · intro _ _; rfl
                · kpt_turns
                · kcj_m
              · kpt_turns
              · kpf_c
            · with_unfolding_all rfl
          · intro q; cases q
        · rfl
        · rfl
      obtain ⟨m', h⟩ := h
      refine cl_def (xs := ["self"]) ho_Writer_is_open ?_ ?_ ?_ ?_ h ?_ ?_ ?_ ?_ ?_
      case refine_9 => unfold opn; rw [hlast]; simp only [hm, Bool.false_or]; rfl
      all_goals kqd_all
end SC3
section SC4
local macro_rules | `(tactic| ktu_offI) => `(tactic|
  first
    | with_reducible refine' cl_tap ?z0 ?z1 ?z2
      case z0 => ktu_offL
      case z1 => ktu_offL
      case z2 => ktu_offL
    | with_reducible refine' cl_new ?z0
      case z0 => ktu_offL
    | with_reducible refine' cl_constant ?z0 ?z1 ?z2 ?z3
      case z0 => ktu_offL
      case z1 => ktu_offL
      case z2 => ktu_offL
      case z3 => ktu_offL
    | with_reducible refine' cl_called ?z0 ?z1 ?z2 ?z3 ?z4 ?z5 ?z6 ?z7
      case z0 => ktu_offL
      case z1 => ktu_offL
      case z2 => ktu_offL
      case z3 => ktu_offL
      case z4 => ktu_offL
      case z5 => ktu_offL
      case z6 => ktu_offL
      case z7 => ktu_offL
    | with_reducible refine' cw_fresh ?z0 ?z1 ?z2
      case z0 => ktu_offL
      case z1 => ktu_offL
      case z2 => ktu_offL
    | with_reducible refine' cw_label ?z0 ?z1 ?z2 ?z3 ?z4 ?z5 ?z6
      case z0 => ktu_offL
      case z1 => ktu_offL
      case z2 => ktu_offL
      case z3 => ktu_offL
      case z4 => ktu_offL
      case z5 => ktu_offL
      case z6 => ktu_offL
    | with_reducible refine' cw_mark ?z0 ?z1 ?z2 ?z3 ?z4 ?z5 ?z6 ?z7 ?z8 ?z9 ?z10 ?z11 ?z12 ?z13
      case z0 => ktu_offL
      case z1 => ktu_offL
      case z2 => ktu_offL
      case z3 => ktu_offL
      case z4 => ktu_offL
      case z5 => ktu_offL
      case z6 => ktu_offL
      case z7 => ktu_offL
      case z8 => ktu_offL
      case z9 => ktu_offL
      case z10 => ktu_offL
      case z11 => ktu_offL
      case z12 => ktu_offL
      case z13 => ktu_offL
    | with_reducible refine' cw_emit ?z0 ?z1 ?z2 ?z3 ?z4 ?z5 ?z6
      case z0 => ktu_offL
      case z1 => ktu_offL
      case z2 => ktu_offL
      case z3 => ktu_offL
      case z4 => ktu_offL
      case z5 => ktu_offL
      case z6 => ktu_offL
    | with_reducible refine' cw_constant ?z0 ?z1 ?z2 ?z3 ?z4 ?z5 ?z6
      case z0 => ktu_offL
      case z1 => ktu_offL
      case z2 => ktu_offL
      case z3 => ktu_offL
      case z4 => ktu_offL
      case z5 => ktu_offL
      case z6 => ktu_offL
    | with_reducible refine' cw_call ?z0 ?z1 ?z2 ?z3 ?z4 ?z5 ?z6 ?z7 ?z8 ?z9 ?z10
      case z0 => ktu_offL
      case z1 => ktu_offL
      case z2 => ktu_offL
      case z3 => ktu_offL
      case z4 => ktu_offL
      case z5 => ktu_offL
      case z6 => ktu_offL
      case z7 => ktu_offL
      case z8 => ktu_offL
      case z9 => ktu_offL
      case z10 => ktu_offL
    | with_reducible refine' cw_builtin ?z0 ?z1 ?z2 ?z3 ?z4 ?z5 ?z6 ?z7 ?z8 ?z9 ?z10
      case z0 => ktu_offL
      case z1 => ktu_offL
      case z2 => ktu_offL
      case z3 => ktu_offL
      case z4 => ktu_offL
      case z5 => ktu_offL
      case z6 => ktu_offL
      case z7 => ktu_offL
      case z8 => ktu_offL
      case z9 => ktu_offL
      case z10 => ktu_offL
    | with_reducible refine' cw_base ?z0 ?z1 ?z2 ?z3 ?z4 ?z5 ?z6 ?z7 ?z8 ?z9 ?z10
      case z0 => ktu_offL
      case z1 => ktu_offL
      case z2 => ktu_offL
      case z3 => ktu_offL
      case z4 => ktu_offL
      case z5 => ktu_offL
      case z6 => ktu_offL
      case z7 => ktu_offL
      case z8 => ktu_offL
      case z9 => ktu_offL
      case z10 => ktu_offL
    | with_reducible refine' cw_copied ?z0 ?z1 ?z2 ?z3 ?z4 ?z5 ?z6
      case z0 => ktu_offL
      case z1 => ktu_offL
      case z2 => ktu_offL
      case z3 => ktu_offL
      case z4 => ktu_offL
      case z5 => ktu_offL
      case z6 => ktu_offL)

variable {G : Gl} {σ : List AO}
/-! rows and labels as plain data -/
inductive Rw where
  | const (n : Int) (c : AV)
  | move (a b : Int)
  | call (a b : Int) (xs : List AV)
  | goto (l : Int)
  | unless (s l : Int)
  | ret (s : Int)
  | rethrow
  | setg (s : Int)
noncomputable def Rw.av : Rw → AV
  | .const n c => .tup [.str "const", .int n, c]
  | .move a b => .tup [.str "move", .int a, .int b]
  | .call a b xs => .tup [.str "call", .int a, .int b, .tup xs]
  | .goto l => .tup [.str "goto", .int l]
  | .unless s l => .tup [.str "unless", .int s, .int l]
  | .ret s => .tup [.str "return", .int s]
  | .rethrow => .tup [.str "rethrow"]
  | .setg s => .tup [.str "setglobal", .str "x", .int s]
noncomputable def lbv : Option Int → AV
  | none => .none
  | some k => .int k
noncomputable abbrev ownO (n : Int) (r l : Nat) : AO := .dict [("slots", .int n), ("rows", .loc r), ("labels", .loc l)]
/-- the objects of the law's first half -/
noncomputable abbrev SS (x0 x2 : AO) (a b ar n : Int) (rws : List Rw) (lbs : List (Option Int)) (g : List AO) : List AO :=
  x0 :: .list [.int a, .int b] :: x2 :: wO ar n 5 6 7 :: .inst 260 3 :: .list (rws.map Rw.av) :: .list (lbs.map lbv) :: .list [] :: ownO n 9 10 :: .list (rws.map Rw.av) :: .list (lbs.map lbv) :: g
inductive Step (n : Int) (rws : List Rw) (lbs : List (Option Int)) : Int → List Rw → List (Option Int) → Prop where
  | fresh : Step n rws lbs (n + 1) rws lbs
  | label : Step n rws lbs n rws (lbs ++ [none])
  | mark {k : Nat} : k < lbs.length → Step n rws lbs n rws (lbs.set k (some (rws.length : Nat)))
  | const : Step n rws lbs (n + 1) (rws ++ [.const n (.tup [.str "bool", .bool true])]) lbs
  | move {x : Int} : Step n rws lbs (n + 1) (rws ++ [.move n x]) lbs
  | call1 {x y : Int} : Step n rws lbs (n + 1 + 1) (rws ++ [.const n (.tup [.str "builtin", .str "tuple"])] ++ [.call (n + 1) n [.int x, .int y]]) lbs
  | call2 {x y : Int} : Step n rws lbs (n + 1 + 1) (rws ++ [.const n (.tup [.str "fun", .str "getindex"])] ++ [.call (n + 1) n [.int x, .int y]]) lbs
  | goto {l : Int} : 0 ≤ l → l < (lbs.length : Int) → Step n rws lbs n (rws ++ [.goto l]) lbs
  | unless {x l : Int} : 0 ≤ l → l < (lbs.length : Int) → Step n rws lbs n (rws ++ [.unless x l]) lbs
  | ret {x : Int} : Step n rws lbs n (rws ++ [.ret x]) lbs
  | rethrow : Step n rws lbs n (rws ++ [.rethrow]) lbs
  | setg {x : Int} : Step n rws lbs n (rws ++ [.setg x]) lbs
noncomputable abbrev cxD (jk jo : Nat) : Cx := ⟨4, "_law_deed", dScope (atTop 22), 304, .ref 303, [("own", jo), ("keg", jk)], none⟩
section
variable {c : Cx} {m m' : List (PySem.Str × AV)} {ss : List Stmt} {fl fl' : AF} {σ₁ g : List AO}
noncomputable def Kpg (g g' : List AO) : Prop := ∀ (i : Nat) (x : AO), g[i]? = some x → g'[i]? = some x
theorem kpg_refl {g : List AO} : Kpg g g := fun _ _ e => e
theorem kpg_app {g g' l : List AO} (h : Kpg g g') : Kpg g (g' ++ l) := fun i x e => by
  rw [List.getElem?_append_left (List.getElem?_eq_some_iff.mp (h i x e)).1]; exact h i x e
theorem kpg_set {g g' : List AO} {i : Nat} {y : AO} (h : Kpg g g') (hi : g.length ≤ i) : Kpg g (g'.set i y) := fun j x e => by
  have := (List.getElem?_eq_some_iff.mp e).1
  exact at_set_ne (by kwd_inv) (h j x e)
theorem Kpg.trans {a b c : List AO} (h : Kpg a b) (h' : Kpg b c) : Kpg a c := fun i x e => h' i x (h i x e)
theorem sx_toG {X : List AO → List AO} {g₀ : List AO} (h : Sx G c m σ ss fl m' σ₁) (e1 : fl = fl') (e2 : σ₁ = X g) (e3 : Kpg g₀ g) : ∃ m' g, Kpg g₀ g ∧ Sx G c m σ ss fl' m' (X g) := by subst e1 e2; exact ⟨_, _, e3, h⟩
end
local macro_rules | `(tactic| kst_p1) => `(tactic| first
  | with_reducible exact kpg_refl
  | ((with_reducible refine' kpg_app ?ha); (case ha => kst_p1))
  | ((with_reducible refine' kpg_set ?ha ?hb); (case ha => kst_p1); (case hb => (first | omega | (simp only [List.length_cons, List.length_nil, List.length_append, List.length_set]; omega)))))
local macro_rules | `(tactic| kct_strs) => `(tactic| ((try simp only [List.append_eq]); kst_p1))
section
variable {x0 x2 : AO} {a b ar n w r1 r2 : Int} {rws : List Rw} {lbs : List (Option Int)} {g : List AO} {jk jo js : Nat}
/-- the deed that has been drawn -/
theorem deed_0 (hk : g[jk]? = some (.cell (some (.loc 1)))) (ho : g[jo]? = some (.cell (some (.loc 8)))) (hs : g[js]? = some (.list [.int r1, .int r2])) (hw : w = 0) :
    ∃ m' g', Kpg g g' ∧ Sx G (cxD (jk + 11) (jo + 11)) [("writer", .loc 4), ("some", .loc (js + 11)), ("way", .int w)] (SS x0 x2 a b ar n rws lbs g) ((dBody (atTop 22)).drop 1) (.ret (.bool true)) m' (SS x0 x2 a b ar (n + 1) rws lbs g') := by
  apply sx_toG
  · apply sx_stop
    · apply s_if_T
      · kln_le
      · kfm_turns
      · kt_eqs
    · intro q; cases q
  · simp
  · rfl
  · kct_strs
theorem deed_1 (hk : g[jk]? = some (.cell (some (.loc 1)))) (ho : g[jo]? = some (.cell (some (.loc 8)))) (hs : g[js]? = some (.list [.int r1, .int r2])) (hw : w = 1) (hz : lbs.length < 100000) :
    ∃ m' g', Kpg g g' ∧ Sx G (cxD (jk + 11) (jo + 11)) [("writer", .loc 4), ("some", .loc (js + 11)), ("way", .int w)] (SS x0 x2 a b ar n rws lbs g) ((dBody (atTop 22)).drop 1) (.ret (.bool true)) m' (SS x0 x2 a b ar n rws (lbs ++ [none]) g') := by
  apply sx_toG
  · kd_facts1
    apply sx_stop
    · apply s_if_T
      · kln_le
      · kfm_turns
      · kt_eqs
        kt_eqs
    · intro q; cases q
  · simp
  · simp only [SS, List.map_append, List.map_cons, List.map_nil, List.length_map, List.map_set]
    rfl
  · kct_strs
theorem deed_2 (hk : g[jk]? = some (.cell (some (.loc 1)))) (ho : g[jo]? = some (.cell (some (.loc 8)))) (hs : g[js]? = some (.list [.int r1, .int r2])) (hw : w = 2) (hl : lbs ≠ []) (hz : lbs.length < 100000) (hzr : rws.length < 100000) :
    ∃ m' g', Kpg g g' ∧ Sx G (cxD (jk + 11) (jo + 11)) [("writer", .loc 4), ("some", .loc (js + 11)), ("way", .int w)] (SS x0 x2 a b ar n rws lbs g) ((dBody (atTop 22)).drop 1) (.ret (.bool true)) m'
      (SS x0 x2 (tapA a (lbs.length : Nat)) (tapB a b) ar n rws (lbs.set (tapR a b (lbs.length : Nat)).toNat (some (rws.length : Nat))) g') := by
  have hl0 : 0 < lbs.length := List.length_pos_iff.mpr hl
  have hb := tapR_bounds a b (n := (lbs.length : Nat)) (by kwd_inv)
  have hp : pls 9 (lbs.map lbv) = true := pls_iff.mpr fun v hv => by
    obtain ⟨o, _, rfl⟩ := List.mem_map.mp hv
    cases o <;> rfl
  apply sx_toG
  · kd_facts1
    kd_facts1
    apply sx_stop
    · apply s_if_T
      · apply tt_bop
        apply at_and_T
        · kln_le
        · kfm_turns
        apply at_and_T
        · kln_le
        · simp [PyData.eqv, pyds_map, eqvAll_nil, hl]
        exact at_and_nil
      · rfl
      · kt_eqs
        kt_eqs
        kt_eqs
        kt_eqs
    · intro q; cases q
  · simp
  · simp only [SS, List.map_append, List.map_cons, List.map_nil, List.length_map, List.map_set]
    rfl
  · kct_strs
theorem deed_3 (hk : g[jk]? = some (.cell (some (.loc 1)))) (ho : g[jo]? = some (.cell (some (.loc 8)))) (hs : g[js]? = some (.list [.int r1, .int r2])) (hw : w = 3) (hzr : rws.length < 100000)  :
    ∃ m' g', Kpg g g' ∧ Sx G (cxD (jk + 11) (jo + 11)) [("writer", .loc 4), ("some", .loc (js + 11)), ("way", .int w)] (SS x0 x2 a b ar n rws lbs g) ((dBody (atTop 22)).drop 1) (.ret (.bool true)) m' (SS x0 x2 a b ar (n + 1) (rws ++ [.const n (.tup [.str "bool", .bool true])]) lbs g') := by
  apply sx_toG
  · kd_facts1
    kd_facts1
    kst_facts
    apply sx_stop
    · apply s_if_T
      · kln_le
      · kfm_turns
      · kt_eqs
    · intro q; cases q
  · simp
  · simp only [SS, List.map_append, List.map_cons, List.map_nil, List.length_map, List.map_set]
    rfl
  · kct_strs
theorem deed_5 (hk : g[jk]? = some (.cell (some (.loc 1)))) (ho : g[jo]? = some (.cell (some (.loc 8)))) (hs : g[js]? = some (.list [.int r1, .int r2])) (hw : w = 5) (hzr : rws.length < 100000)  :
    ∃ m' g', Kpg g g' ∧ Sx G (cxD (jk + 11) (jo + 11)) [("writer", .loc 4), ("some", .loc (js + 11)), ("way", .int w)] (SS x0 x2 a b ar n rws lbs g) ((dBody (atTop 22)).drop 1) (.ret (.bool true)) m' (SS x0 x2 a b ar (n + 1 + 1) (rws ++ [.const n (.tup [.str "builtin", .str "tuple"])] ++ [.call (n + 1) n [.int r1, .int r2]]) lbs g') := by
  apply sx_toG
  · kd_facts1
    kd_facts1
    kst_facts
    kd_facts1
    kd_facts1
    apply sx_stop
    · apply s_if_T
      · kln_le
      · kfm_turns
      · kt_eqs
    · intro q; cases q
  · simp
  · simp only [SS, List.map_append, List.map_cons, List.map_nil, List.length_map, List.map_set]
    rfl
  · kct_strs
theorem deed_6 (hk : g[jk]? = some (.cell (some (.loc 1)))) (ho : g[jo]? = some (.cell (some (.loc 8)))) (hs : g[js]? = some (.list [.int r1, .int r2])) (hw : w = 6) (hzr : rws.length < 100000)  :
    ∃ m' g', Kpg g g' ∧ Sx G (cxD (jk + 11) (jo + 11)) [("writer", .loc 4), ("some", .loc (js + 11)), ("way", .int w)] (SS x0 x2 a b ar n rws lbs g) ((dBody (atTop 22)).drop 1) (.ret (.bool true)) m' (SS x0 x2 a b ar (n + 1 + 1) (rws ++ [.const n (.tup [.str "fun", .str "getindex"])] ++ [.call (n + 1) n [.int r1, .int r2]]) lbs g') := by
  apply sx_toG
  · kd_facts1
    kd_facts1
    kst_facts
    kd_facts1
    kd_facts1
    kd_facts1
    apply sx_stop
    · apply s_if_T
      · kln_le
      · kfm_turns
      · kt_eqs
    · intro q; cases q
  · simp
  · simp only [SS, List.map_append, List.map_cons, List.map_nil, List.length_map, List.map_set]
    rfl
  · kct_strs
noncomputable def rw3 (k r1 r2 : Int) : Rw := if k = 0 then .ret r1 else if k = 1 then .rethrow else .setg r2
theorem pick3 {k r1 r2 : Int} (h0 : 0 ≤ k) (h1 : k < 3) : [AV.tup [.str "return", .int r1], .tup [.str "rethrow"], .tup [.str "setglobal", .str "x", .int r2]][k.toNat]? = some (rw3 k r1 r2).av := by
  unfold rw3
  have : k = 0 ∨ k = 1 ∨ k = 2 := by omega
  rcases this with rfl | rfl | rfl <;> rfl
theorem deed_4 (hk : g[jk]? = some (.cell (some (.loc 1)))) (ho : g[jo]? = some (.cell (some (.loc 8)))) (hs : g[js]? = some (.list [.int r1, .int r2])) (hw : w = 4) (hzr : rws.length < 100000) :
    ∃ m' g', Kpg g g' ∧ Sx G (cxD (jk + 11) (jo + 11)) [("writer", .loc 4), ("some", .loc (js + 11)), ("way", .int w)] (SS x0 x2 a b ar n rws lbs g) ((dBody (atTop 22)).drop 1) (.ret (.bool true)) m' (SS x0 x2 a b ar (n + 1) (rws ++ [.move n r1]) lbs g') := by
  apply sx_toG
  · kd_facts1
    kd_facts1
    kst_facts
    kd_facts1
    apply sx_stop
    · apply s_if_T
      · kln_le
      · kfm_turns
      · refine' sx_next ?ua ?ub
        case ua =>
          refine' s_assign_swap (x := "told") (y := "due") ?uc ?ud ?ue ?uf ?ug
          case uc => kpt_turns
          case ud => kd_p1
          case ue => kd_p1
          case uf => intro _; rfl
          case ug => intro F; kernel_rfl!
        case' ub => skip
        kt_eqs
        kt_eqs
    · intro q; cases q
  · simp
  · simp only [SS, List.map_append, List.map_cons, List.map_nil, List.length_map, List.map_set]
    rfl
  · kct_strs
theorem deed_7g (hk : g[jk]? = some (.cell (some (.loc 1)))) (ho : g[jo]? = some (.cell (some (.loc 8)))) (hs : g[js]? = some (.list [.int r1, .int r2])) (hw : w = 7) (hl : lbs ≠ []) (hz : lbs.length < 100000) (hzr : rws.length < 100000) (hc : tapR (tapA a (lbs.length : Nat)) (tapB a b) 2 = 0) :
    ∃ m' g', Kpg g g' ∧ Sx G (cxD (jk + 11) (jo + 11)) [("writer", .loc 4), ("some", .loc (js + 11)), ("way", .int w)] (SS x0 x2 a b ar n rws lbs g) ((dBody (atTop 22)).drop 1) (.ret (.bool true)) m' (SS x0 x2 (tapA (tapA a (lbs.length : Nat)) 2) (tapB (tapA a (lbs.length : Nat)) (tapB a b)) ar n (rws ++ [.goto (tapR a b (lbs.length : Nat))]) lbs g') := by
  have hl0 : 0 < lbs.length := List.length_pos_iff.mpr hl
  have hb := tapR_bounds a b (n := (lbs.length : Nat)) (by kwd_inv)
  have hp : pls 9 (lbs.map lbv) = true := pls_iff.mpr fun v hv => by
    obtain ⟨o, _, rfl⟩ := List.mem_map.mp hv
    cases o <;> rfl
  apply sx_toG
  · kd_facts1
    kd_facts1
    kst_facts
    kd_facts1
    kd_facts1
    kd_facts1
    kd_facts1
    refine' sx_next ?ua ?ub
    case ua =>
      refine' s_if_T ?va ?vb ?vc
      case va =>
        apply tt_bop
        apply at_and_T
        · kln_le
        · kfm_turns
        apply at_and_T
        · kln_le
        · simp [PyData.eqv, pyds_map, eqvAll_nil, hl]
        exact at_and_nil
      case vb => rfl
      case vc =>
        kt_eqs
        refine' sx_next ?wa ?wb
        case wa =>
          refine' s_assign ?wc ?wd ?we
          case wc =>
            refine' ev_if_T ?wf ?wg ?wh
            case wf => kln_le
            case wg =>
              simp only [List.length_map]
              kfm_turns
            case wh => kpt_turns
          case wd => kd_p1
          case we => intro _; rfl
        case wb => exact sx_nil
    case' ub => skip
    kt_eqs
    kt_eqs
    kt_eqs
  · simp
  · simp only [SS, List.map_append, List.map_cons, List.map_nil, List.length_map, List.map_set]
    rfl
  · kct_strs
theorem deed_7u (hk : g[jk]? = some (.cell (some (.loc 1)))) (ho : g[jo]? = some (.cell (some (.loc 8)))) (hs : g[js]? = some (.list [.int r1, .int r2])) (hw : w = 7) (hl : lbs ≠ []) (hz : lbs.length < 100000) (hzr : rws.length < 100000) (hc : tapR (tapA a (lbs.length : Nat)) (tapB a b) 2 ≠ 0) :
    ∃ m' g', Kpg g g' ∧ Sx G (cxD (jk + 11) (jo + 11)) [("writer", .loc 4), ("some", .loc (js + 11)), ("way", .int w)] (SS x0 x2 a b ar n rws lbs g) ((dBody (atTop 22)).drop 1) (.ret (.bool true)) m' (SS x0 x2 (tapA (tapA a (lbs.length : Nat)) 2) (tapB (tapA a (lbs.length : Nat)) (tapB a b)) ar n (rws ++ [.unless r1 (tapR a b (lbs.length : Nat))]) lbs g') := by
  have hl0 : 0 < lbs.length := List.length_pos_iff.mpr hl
  have hb := tapR_bounds a b (n := (lbs.length : Nat)) (by kwd_inv)
  have hp : pls 9 (lbs.map lbv) = true := pls_iff.mpr fun v hv => by
    obtain ⟨o, _, rfl⟩ := List.mem_map.mp hv
    cases o <;> rfl
  apply sx_toG
  · kd_facts1
    kd_facts1
    kst_facts
    kd_facts1
    kd_facts1
    kd_facts1
    kd_facts1
    refine' sx_next ?ua ?ub
    case ua =>
      refine' s_if_T ?va ?vb ?vc
      case va =>
        apply tt_bop
        apply at_and_T
        · kln_le
        · kfm_turns
        apply at_and_T
        · kln_le
        · simp [PyData.eqv, pyds_map, eqvAll_nil, hl]
        exact at_and_nil
      case vb => rfl
      case vc =>
        kt_eqs
        refine' sx_next ?wa ?wb
        case wa =>
          refine' s_assign ?wc ?wd ?we
          case wc =>
            refine' ev_if_F ?wf ?wg ?wh
            case wf => kln_le
            case wg =>
              simp only [List.length_map]
              kfm_turns
            case wh => kpt_turns
          case wd => kd_p1
          case we => intro _; rfl
        case wb => exact sx_nil
    case' ub => skip
    kt_eqs
    kt_eqs
    kt_eqs
  · simp
  · simp only [SS, List.map_append, List.map_cons, List.map_nil, List.length_map, List.map_set]
    rfl
  · kct_strs
theorem deed_8 (hk : g[jk]? = some (.cell (some (.loc 1)))) (ho : g[jo]? = some (.cell (some (.loc 8)))) (hs : g[js]? = some (.list [.int r1, .int r2])) (hw : w = 8) (hzr : rws.length < 100000) :
    ∃ m' g', Kpg g g' ∧ Sx G (cxD (jk + 11) (jo + 11)) [("writer", .loc 4), ("some", .loc (js + 11)), ("way", .int w)] (SS x0 x2 a b ar n rws lbs g) ((dBody (atTop 22)).drop 1) (.ret (.bool true)) m' (SS x0 x2 (tapA a 3) (tapB a b) ar n (rws ++ [rw3 (tapR a b 3) r1 r2]) lbs g') := by
  have hb := tapR_bounds a b (n := 3) (by decide)
  have hpick := pick3 (r1 := r1) (r2 := r2) hb.1 hb.2
  have hp : pls 9 (lbs.map lbv) = true := pls_iff.mpr fun v hv => by
    obtain ⟨o, _, rfl⟩ := List.mem_map.mp hv
    cases o <;> rfl
  apply sx_toG
  · kd_facts1
    kd_facts1
    kst_facts
    kd_facts1
    kd_facts1
    kd_facts1
    kd_facts1
    refine' sx_next ?ua ?ub
    case ua =>
      refine' s_if_F ?va ?vb ?vc
      case va =>
        apply tt_bop
        apply at_and_F
        · kln_le
        · kfm_turns
      case vb => rfl
      case vc =>
        refine' sx_next ?wa ?wb
        case wa =>
          refine' s_assign ?wc ?wd ?we
          case wc => kpt_turns
          case wd => kd_p1
          case we => intro _; rfl
        case wb => exact sx_nil
    case' ub => skip
    kt_eqs
    kt_eqs
    kt_eqs
  · simp
  · simp only [SS, List.map_append, List.map_cons, List.map_nil, List.length_map, List.map_set]
    rfl
  · kct_strs
theorem deed_2e (hk : g[jk]? = some (.cell (some (.loc 1)))) (ho : g[jo]? = some (.cell (some (.loc 8)))) (hs : g[js]? = some (.list [.int r1, .int r2])) (hw : w = 2) (hl : lbs = []) (hzr : rws.length < 100000) :
    ∃ m' g', Kpg g g' ∧ Sx G (cxD (jk + 11) (jo + 11)) [("writer", .loc 4), ("some", .loc (js + 11)), ("way", .int w)] (SS x0 x2 a b ar n rws lbs g) ((dBody (atTop 22)).drop 1) (.ret (.bool true)) m' (SS x0 x2 (tapA a 3) (tapB a b) ar n (rws ++ [rw3 (tapR a b 3) r1 r2]) lbs g') := by
  have hb := tapR_bounds a b (n := 3) (by decide)
  have hpick := pick3 (r1 := r1) (r2 := r2) hb.1 hb.2
  have hp : pls 9 (lbs.map lbv) = true := pls_iff.mpr fun v hv => by
    obtain ⟨o, _, rfl⟩ := List.mem_map.mp hv
    cases o <;> rfl
  apply sx_toG
  · kd_facts1
    kd_facts1
    refine' sx_next ?xa ?xb
    case xa =>
      refine' s_if_F0 ?xc ?xd
      case xc =>
        apply tt_bop
        apply at_and_T
        · kln_le
        · kfm_turns
        apply at_and_F
        · kln_le
        · subst hl; rfl
      case xd => rfl
    case' xb => skip
    kd_facts1
    kd_facts1
    kd_facts1
    kd_facts1
    refine' sx_next ?ua ?ub
    case ua =>
      refine' s_if_F ?va ?vb ?vc
      case va =>
        apply tt_bop
        apply at_and_F
        · kln_le
        · kfm_turns
      case vb => rfl
      case vc =>
        refine' sx_next ?wa ?wb
        case wa =>
          refine' s_assign ?wc ?wd ?we
          case wc => kpt_turns
          case wd => kd_p1
          case we => intro _; rfl
        case wb => exact sx_nil
    case' ub => skip
    kt_eqs
    kt_eqs
    kt_eqs
  · simp
  · simp only [SS, List.map_append, List.map_cons, List.map_nil, List.length_map, List.map_set]
    rfl
  · kct_strs
theorem deed_7e (hk : g[jk]? = some (.cell (some (.loc 1)))) (ho : g[jo]? = some (.cell (some (.loc 8)))) (hs : g[js]? = some (.list [.int r1, .int r2])) (hw : w = 7) (hl : lbs = []) (hzr : rws.length < 100000) :
    ∃ m' g', Kpg g g' ∧ Sx G (cxD (jk + 11) (jo + 11)) [("writer", .loc 4), ("some", .loc (js + 11)), ("way", .int w)] (SS x0 x2 a b ar n rws lbs g) ((dBody (atTop 22)).drop 1) (.ret (.bool true)) m' (SS x0 x2 (tapA a 3) (tapB a b) ar n (rws ++ [rw3 (tapR a b 3) r1 r2]) lbs g') := by
  have hb := tapR_bounds a b (n := 3) (by decide)
  have hpick := pick3 (r1 := r1) (r2 := r2) hb.1 hb.2
  have hp : pls 9 (lbs.map lbv) = true := pls_iff.mpr fun v hv => by
    obtain ⟨o, _, rfl⟩ := List.mem_map.mp hv
    cases o <;> rfl
  apply sx_toG
  · kd_facts1
    kd_facts1
    kst_facts
    kd_facts1
    kd_facts1
    kd_facts1
    kd_facts1
    refine' sx_next ?ua ?ub
    case ua =>
      refine' s_if_F ?va ?vb ?vc
      case va =>
        apply tt_bop
        apply at_and_T
        · kln_le
        · kfm_turns
        apply at_and_F
        · kln_le
        · subst hl; rfl
      case vb => rfl
      case vc =>
        refine' sx_next ?wa ?wb
        case wa =>
          refine' s_assign ?wc ?wd ?we
          case wc => kpt_turns
          case wd => kd_p1
          case we => intro _; rfl
        case wb => exact sx_nil
    case' ub => skip
    kt_eqs
    kt_eqs
    kt_eqs
  · simp
  · simp only [SS, List.map_append, List.map_cons, List.map_nil, List.length_map, List.map_set]
    rfl
  · kct_strs
end
end SC4
section SC5
local macro_rules | `(tactic| kst_p1) => `(tactic| first
  | with_reducible exact kpg_refl
  | ((with_reducible refine' kpg_app ?ha); (case ha => kst_p1))
  | ((with_reducible refine' kpg_set ?ha ?hb); (case ha => kst_p1); (case hb => (first | omega | (simp only [List.length_cons, List.length_nil, List.length_append, List.length_set]; omega)))))
local macro_rules | `(tactic| kct_strs) => `(tactic| ((try simp only [List.append_eq]); kst_p1))
local macro_rules | `(tactic| ktu_offI) => `(tactic|
  first
    | with_reducible refine' cl_tap ?z0 ?z1 ?z2
      case z0 => ktu_offL
      case z1 => ktu_offL
      case z2 => ktu_offL
    | with_reducible refine' cl_new ?z0
      case z0 => ktu_offL
    | with_reducible refine' cl_constant ?z0 ?z1 ?z2 ?z3
      case z0 => ktu_offL
      case z1 => ktu_offL
      case z2 => ktu_offL
      case z3 => ktu_offL
    | with_reducible refine' cl_called ?z0 ?z1 ?z2 ?z3 ?z4 ?z5 ?z6 ?z7
      case z0 => ktu_offL
      case z1 => ktu_offL
      case z2 => ktu_offL
      case z3 => ktu_offL
      case z4 => ktu_offL
      case z5 => ktu_offL
      case z6 => ktu_offL
      case z7 => ktu_offL
    | with_reducible refine' cw_fresh ?z0 ?z1 ?z2
      case z0 => ktu_offL
      case z1 => ktu_offL
      case z2 => ktu_offL
    | with_reducible refine' cw_label ?z0 ?z1 ?z2 ?z3 ?z4 ?z5 ?z6
      case z0 => ktu_offL
      case z1 => ktu_offL
      case z2 => ktu_offL
      case z3 => ktu_offL
      case z4 => ktu_offL
      case z5 => ktu_offL
      case z6 => ktu_offL
    | with_reducible refine' cw_mark ?z0 ?z1 ?z2 ?z3 ?z4 ?z5 ?z6 ?z7 ?z8 ?z9 ?z10 ?z11 ?z12 ?z13
      case z0 => ktu_offL
      case z1 => ktu_offL
      case z2 => ktu_offL
      case z3 => ktu_offL
      case z4 => ktu_offL
      case z5 => ktu_offL
      case z6 => ktu_offL
      case z7 => ktu_offL
      case z8 => ktu_offL
      case z9 => ktu_offL
      case z10 => ktu_offL
      case z11 => ktu_offL
      case z12 => ktu_offL
      case z13 => ktu_offL
    | with_reducible refine' cw_emit ?z0 ?z1 ?z2 ?z3 ?z4 ?z5 ?z6
      case z0 => ktu_offL
      case z1 => ktu_offL
      case z2 => ktu_offL
      case z3 => ktu_offL
      case z4 => ktu_offL
      case z5 => ktu_offL
      case z6 => ktu_offL
    | with_reducible refine' cw_constant ?z0 ?z1 ?z2 ?z3 ?z4 ?z5 ?z6
      case z0 => ktu_offL
      case z1 => ktu_offL
      case z2 => ktu_offL
      case z3 => ktu_offL
      case z4 => ktu_offL
      case z5 => ktu_offL
      case z6 => ktu_offL
    | with_reducible refine' cw_call ?z0 ?z1 ?z2 ?z3 ?z4 ?z5 ?z6 ?z7 ?z8 ?z9 ?z10
      case z0 => ktu_offL
      case z1 => ktu_offL
      case z2 => ktu_offL
      case z3 => ktu_offL
      case z4 => ktu_offL
      case z5 => ktu_offL
      case z6 => ktu_offL
      case z7 => ktu_offL
      case z8 => ktu_offL
      case z9 => ktu_offL
      case z10 => ktu_offL
    | with_reducible refine' cw_builtin ?z0 ?z1 ?z2 ?z3 ?z4 ?z5 ?z6 ?z7 ?z8 ?z9 ?z10
      case z0 => ktu_offL
      case z1 => ktu_offL
      case z2 => ktu_offL
      case z3 => ktu_offL
      case z4 => ktu_offL
      case z5 => ktu_offL
      case z6 => ktu_offL
      case z7 => ktu_offL
      case z8 => ktu_offL
      case z9 => ktu_offL
      case z10 => ktu_offL
    | with_reducible refine' cw_base ?z0 ?z1 ?z2 ?z3 ?z4 ?z5 ?z6 ?z7 ?z8 ?z9 ?z10
      case z0 => ktu_offL
      case z1 => ktu_offL
      case z2 => ktu_offL
      case z3 => ktu_offL
      case z4 => ktu_offL
      case z5 => ktu_offL
      case z6 => ktu_offL
      case z7 => ktu_offL
      case z8 => ktu_offL
      case z9 => ktu_offL
      case z10 => ktu_offL
    | with_reducible refine' cw_copied ?z0 ?z1 ?z2 ?z3 ?z4 ?z5 ?z6
      case z0 => ktu_offL
      case z1 => ktu_offL
      case z2 => ktu_offL
      case z3 => ktu_offL
      case z4 => ktu_offL
      case z5 => ktu_offL
      case z6 => ktu_offL)

variable {G : Gl} {σ : List AO}
section
variable {x0 x2 : AO} {a b ar n w r1 r2 : Int} {rws : List Rw} {lbs : List (Option Int)} {g : List AO} {jk jo js : Nat}
theorem deed_first (hn : 0 < n) (hn2 : n < 100000) (hk : g[jk]? = some (.cell (some (.loc 1)))) (ho : g[jo]? = some (.cell (some (.loc 8)))) :
    ∃ a' b' r1 r2 js g', g'[jk]? = some (.cell (some (.loc 1))) ∧ g'[jo]? = some (.cell (some (.loc 8))) ∧ g'[js]? = some (.list [.int r1, .int r2]) ∧ Kpg g g' ∧
      S1 G (cxD (jk + 11) (jo + 11)) [("writer", .loc 4)] (SS x0 x2 a b ar n rws lbs g) ((dBody (atTop 22)).headD noStmt) .next [("writer", .loc 4), ("some", .loc (js + 11)), ("way", .int (tapR a b 9))] (SS x0 x2 a' b' ar n rws lbs g') := by
  have hlk : jk < g.length := (List.getElem?_eq_some_iff.mp hk).1
  have hlo : jo < g.length := (List.getElem?_eq_some_iff.mp ho).1
  refine ⟨?a, ?b, tapR (tapA a 9) (tapB a b) n, tapR (tapA (tapA a 9) n) (tapB (tapA a 9) (tapB a b)) n, g.length + 2, ?g, ?h1, ?h2, ?h3, ?h5, ?h4⟩
  case h4 =>
    refine' s1_to ?k1 ?k2 ?k3
    case k1 =>
      refine' s_assign_swap (x := "way") (y := "some") ?uc ?ud ?ue ?uf ?ug
      case uc =>
        refine' ev_tuple ?va ?vb
        case va =>
          refine' evs_cons ?wa ?wb ?wc
          case wa => kpt_turns
          case wb =>
            refine' evs_cons ?xa ?xb ?xc
            case xa =>
              refine' ev_comp (cs := [("own", jo + 11), ("keg", jk + 11)]) ?c1 ?c2 ?c3 ?c4 ?c5 ?c6 ?c7 ?c8 ?c9 ?c10 ?c11
              case c1 => kernel_rfl!
              case c2 => kernel_rfl!
              case c3 => kernel_rfl!
              case c4 => kernel_rfl!
              case c5 => kpt_turns
              case c6 => exact pi_range (by krn_off) (by decide) (by decide) (by kqd_sub)
              case c7 => kqd_sub
              case c8 => exact pi_rit (by krn_off)
              case c9 => kst_facts1
              case c10 => krn_off
              case c11 => intro _ _; rfl
            case xb => exact evs_nil
            case xc => intro _; rfl
          case wc => intro _; rfl
        case vb => exact Nat.le_of_ble_eq_true rfl
      case ud => kd_p1
      case ue => kd_p1
      case uf => intro _; rfl
      case ug => intro F; kernel_rfl!
    case k2 => rfl
    case k3 => rfl
  all_goals (try simp only [List.append_eq])
  case h3 => simp only [List.nil_append, List.cons_append]; krn_off
  case h1 => krn_off
  case h2 => krn_off
  case h5 => kct_strs

theorem b_deed {N : Nat} (hn : 0 < n) (hn2 : n < 100000) (hzr : rws.length < 100000) (hzl : lbs.length < 100000) (hN : (SS x0 x2 a b ar n rws lbs g).length = N) :
    ∃ m' a' b' n' rws' lbs' g', Step n rws lbs n' rws' lbs' ∧ Kpg g g' ∧ Sx G (cxD (N + 1) N) [("writer", .loc 4)] (SS x0 x2 a b ar n rws lbs g ++ [.cell (some (.loc 8)), .cell (some (.loc 1))]) (dBody (atTop 22)) (.ret (.bool true)) m' (SS x0 x2 a' b' ar n' rws' lbs' g') := by
  have hNg : N = g.length + 11 := by rw [← hN]; simp
  subst hNg
  have hk : (g ++ [AO.cell (some (.loc 8)), .cell (some (.loc 1))])[g.length + 1]? = some (.cell (some (.loc 1))) := by simp
  have ho : (g ++ [AO.cell (some (.loc 8)), .cell (some (.loc 1))])[g.length]? = some (.cell (some (.loc 8))) := by simp
  obtain ⟨a1, b1, r1, r2, js, g1, k1, o1, s1, kk, H⟩ := deed_first (G := G) (x0 := x0) (x2 := x2) (a := a) (b := b) (ar := ar) (n := n) (rws := rws) (lbs := lbs) hn hn2 hk ho
  have hw := tapR_bounds a b (n := 9) (by decide)
  generalize hwe : tapR a b 9 = w at H hw
  have key : ∀ {m' : List (PySem.Str × AV)} {a' b' n' : Int} {rws' : List Rw} {lbs' : List (Option Int)} {g' : List AO}, Step n rws lbs n' rws' lbs' → Kpg g1 g' →
      Sx G (cxD (g.length + 1 + 11) (g.length + 11)) [("writer", .loc 4), ("some", .loc (js + 11)), ("way", .int w)] (SS x0 x2 a1 b1 ar n rws lbs g1) ((dBody (atTop 22)).drop 1) (.ret (.bool true)) m' (SS x0 x2 a' b' ar n' rws' lbs' g') →
      ∃ m' a' b' n' rws' lbs' g', Step n rws lbs n' rws' lbs' ∧ Kpg g g' ∧ Sx G (cxD (g.length + 1 + 11) (g.length + 11)) [("writer", .loc 4)] (SS x0 x2 a b ar n rws lbs g ++ [.cell (some (.loc 8)), .cell (some (.loc 1))]) (dBody (atTop 22)) (.ret (.bool true)) m' (SS x0 x2 a' b' ar n' rws' lbs' g') :=
    fun s kq h => ⟨_, _, _, _, _, _, _, s, ((kpg_app kpg_refl).trans kk).trans kq, sx_cons H h⟩
  have hcase : w = 0 ∨ w = 1 ∨ w = 2 ∨ w = 3 ∨ w = 4 ∨ w = 5 ∨ w = 6 ∨ w = 7 ∨ w = 8 := by omega
  have rw3s : ∀ {a b : Int}, Step n rws lbs n (rws ++ [rw3 (tapR a b 3) r1 r2]) lbs := fun {a b} => by
    unfold rw3
    split
    · exact .ret
    · split
      · exact .rethrow
      · exact .setg
  rcases hcase with h | h | h | h | h | h | h | h | h
  · obtain ⟨m', g', kq, q⟩ := deed_0 (G := G) (x0 := x0) (x2 := x2) (a := a1) (b := b1) (ar := ar) (n := n) (rws := rws) (lbs := lbs) k1 o1 s1 h
    exact key .fresh kq q
  · obtain ⟨m', g', kq, q⟩ := deed_1 (G := G) (x0 := x0) (x2 := x2) (a := a1) (b := b1) (ar := ar) (n := n) (rws := rws) (lbs := lbs) k1 o1 s1 h hzl
    exact key .label kq q
  · by_cases hl : lbs = []
    · obtain ⟨m', g', kq, q⟩ := deed_2e (G := G) (x0 := x0) (x2 := x2) (a := a1) (b := b1) (ar := ar) (n := n) (rws := rws) (lbs := lbs) k1 o1 s1 h hl hzr
      exact key rw3s kq q
    · obtain ⟨m', g', kq, q⟩ := deed_2 (G := G) (x0 := x0) (x2 := x2) (a := a1) (b := b1) (ar := ar) (n := n) (rws := rws) (lbs := lbs) k1 o1 s1 h hl hzl hzr
      have hb := tapR_bounds a1 b1 (n := (lbs.length : Nat)) (by have := List.length_pos_iff.mpr hl; omega)
      exact key (.mark (by kwd_inv)) kq q
  · obtain ⟨m', g', kq, q⟩ := deed_3 (G := G) (x0 := x0) (x2 := x2) (a := a1) (b := b1) (ar := ar) (n := n) (rws := rws) (lbs := lbs) k1 o1 s1 h hzr
    exact key .const kq q
  · obtain ⟨m', g', kq, q⟩ := deed_4 (G := G) (x0 := x0) (x2 := x2) (a := a1) (b := b1) (ar := ar) (n := n) (rws := rws) (lbs := lbs) k1 o1 s1 h hzr
    exact key .move kq q
  · obtain ⟨m', g', kq, q⟩ := deed_5 (G := G) (x0 := x0) (x2 := x2) (a := a1) (b := b1) (ar := ar) (n := n) (rws := rws) (lbs := lbs) k1 o1 s1 h hzr
    exact key .call1 kq q
  · obtain ⟨m', g', kq, q⟩ := deed_6 (G := G) (x0 := x0) (x2 := x2) (a := a1) (b := b1) (ar := ar) (n := n) (rws := rws) (lbs := lbs) k1 o1 s1 h hzr
    exact key .call2 kq q
  · by_cases hl : lbs = []
    · obtain ⟨m', g', kq, q⟩ := deed_7e (G := G) (x0 := x0) (x2 := x2) (a := a1) (b := b1) (ar := ar) (n := n) (rws := rws) (lbs := lbs) k1 o1 s1 h hl hzr
      exact key rw3s kq q
    · have hb := tapR_bounds a1 b1 (n := (lbs.length : Nat)) (by have := List.length_pos_iff.mpr hl; omega)
      by_cases hc : tapR (tapA a1 (lbs.length : Nat)) (tapB a1 b1) 2 = 0
      · obtain ⟨m', g', kq, q⟩ := deed_7g (G := G) (x0 := x0) (x2 := x2) (a := a1) (b := b1) (ar := ar) (n := n) (rws := rws) (lbs := lbs) k1 o1 s1 h hl hzl hzr hc
        exact key (.goto hb.1 hb.2) kq q
      · obtain ⟨m', g', kq, q⟩ := deed_7u (G := G) (x0 := x0) (x2 := x2) (a := a1) (b := b1) (ar := ar) (n := n) (rws := rws) (lbs := lbs) k1 o1 s1 h hl hzl hzr hc
        exact key (.unless hb.1 hb.2) kq q
  · obtain ⟨m', g', kq, q⟩ := deed_8 (G := G) (x0 := x0) (x2 := x2) (a := a1) (b := b1) (ar := ar) (n := n) (rws := rws) (lbs := lbs) k1 o1 s1 h hzr
    exact key rw3s kq q
theorem cl_deed (hn : 0 < n) (hn2 : n < 100000) (hzr : rws.length < 100000) (hzl : lbs.length < 100000) :
    ∃ a' b' n' rws' lbs' g', Step n rws lbs n' rws' lbs' ∧ Kpg g g' ∧ Cl G 5 (.ref 304) [.loc 1, .loc 4, .loc 8] (SS x0 x2 a b ar n rws lbs g) (.bool true) (SS x0 x2 a' b' ar n' rws' lbs' g') := by
  obtain ⟨m', a', b', n', rws', lbs', g', s, kq, h⟩ := b_deed (G := G) (x0 := x0) (x2 := x2) (a := a) (b := b) (ar := ar) (g := g) hn hn2 hzr hzl rfl
  refine ⟨a', b', n', rws', lbs', g', s, kq, ?_⟩
  refine cl_defC (xs := ["keg", "writer", "own"]) (ml := [("writer", .loc 4)]) (ca := [.cell (some (.loc 8)), .cell (some (.loc 1))]) ho_law_deed ?_ ?_ ?_ ?_ rfl ?_ rfl ?_ ?_ ?_ ?_ h ?_ ?_ ?_ ?_ <;> kqd_all
end
end SC5
section SC6
local macro_rules | `(tactic| ktu_offI) => `(tactic|
  first
    | with_reducible refine' cw_fresh ?z0 ?z1 ?z2
      case z0 => ktu_offL
      case z1 => ktu_offL
      case z2 => ktu_offL)

variable {G : Gl} {σ : List AO}
theorem b_exc {n : Nat} {y : PySem.Str} (hn : σ.length = n) :
    ∃ m', Sx G (cxF 0 "RowsError.__init__" (inClass 2 0) 36 (.ref 35)) [("self", .loc n), ("message", .str y), ("spot", .none)] (σ ++ [.exc none none]) (dBody (inClass 2 0)) .next m' (σ ++ [.exc none (some (n + 1)), .idict [("message", .str y), ("spot", .none)]]) := by
  have hn' : (σ ++ [AO.exc none none]).length = n + 1 := by simp [hn]
  apply sx_to
  · refine' sx_next ?ha ?hb
    case ha =>
      refine' s_expr ?ka ?kb ?kc
      case ka =>
        refine' ev_callm0 (f := .builtin "Exception.__init__") (k := 0) ?a1 ?a2 ?a3 ?a4 ?a5 ?a6 ?a7 ?a8 ?a9 ?a10
        case a1 => kcf_m
        case a2 => exact gm_excinit
        case a3 => kc_close
        case a4 => exact kp_B
        case a5 => exact cl_excinit (at_push hn)
        case a6 => exact Nat.zero_le _
        case a7 => intro _; rfl
        case a8 => rfl
        case a9 => intro _; rfl
        case a10 => rfl
      case kb => rfl
      case kc => intro _; rfl
    case' hb => skip
    refine' sx_next ?hc ?hd
    case hc =>
      refine' s_setattr ?a1 ?a2 ?a3 ?a4
      case a1 => kpt_turns
      case a2 => kpt_turns
      case a3 => exact sa_exc1 (at_push hn) (by kernel_rfl!)
      case a4 => intro _; rfl
    case' hd => skip
    refine' sx_next ?he ?hf
    case he =>
      refine' s_setattr ?a1 ?a2 ?a3 ?a4
      case a1 => kpt_turns
      case a2 => kpt_turns
      case a3 =>
        refine sa_exc2 (i := n) (d := n + 1) (t := none) (es := [("message", .str y)]) ?_ ?_ (by simp) (by kernel_rfl!)
        · subst hn; simp
        · subst hn; simp
      case a4 => intro _; rfl
    case' hf => skip
    exact sx_nil
  · rfl
  · subst hn
    simp [put]
    decide +kernel
theorem cl_fault {n : Nat} {y : PySem.Str} (hn : σ.length = n) : Cl G 2 (.ref 52) [.str y] σ (.loc n) (σ ++ [.exc none (some (n + 1)), .idict [("message", .str y), ("spot", .none)]]) := by
  obtain ⟨m', h⟩ := b_exc (G := G) (y := y) hn
  exact cl_exc52 (k := 0) hn h rfl
noncomputable abbrev stands : PySem.Str := "a label that stands nowhere"
noncomputable abbrev excG (n : Nat) : List AO := [.exc none (some (n + 1)), .idict [("message", .str stands), ("spot", .none)]]
theorem cd_goal_ok {iw d r l y : Nat} {ar n k : Int} {ls : List AV} {i : Int} (hw : σ[iw]? = some (.inst 260 d)) (hd : σ[d]? = some (wO ar n r l y)) (hl : σ[l]? = some (.list ls)) (hz : ls.length < 1000000) (k0 : 0 ≤ k) (hk : ls[k.toNat]? = some (.int i)) :
    Cd G 1 (.ref 250) [.loc iw, .int k] σ (.int i) σ := by
  have h : ∃ m', Sx G (cxF 0 "Writer.goal" (inClass 15 11) 250 (.ref 249)) [("self", .loc iw), ("label", .int k)] σ (dBody (inClass 15 11)) (.ret (.int i)) m' σ := by
    apply sx_to
    · refine' sx_next ?ha ?hb
      case ha =>
        apply s_if_F0
        · kln_le
        · rfl
      case' hb => skip
      kt_eqs
    · rfl
    · rfl
  obtain ⟨m', h⟩ := h
  refine cd_def (xs := ["self", "label"]) ho_Writer_goal ?_ ?_ ?_ ?_ h ?_ ?_ ?_ ?_ ?_ <;> kqd_all
theorem cd_goal_bad {iw d r l y : Nat} {ar n k : Int} {ls : List AV} (hw : σ[iw]? = some (.inst 260 d)) (hd : σ[d]? = some (wO ar n r l y)) (hl : σ[l]? = some (.list ls)) (hz : ls.length < 1000000) (k0 : 0 ≤ k) (hk : ls[k.toNat]? = some .none) :
    CdE G 3 (.ref 250) [.loc iw, .int k] σ (σ ++ excG σ.length) := by
  have h : SxE G (cxF 2 "Writer.goal" (inClass 15 11) 250 (.ref 249)) [("self", .loc iw), ("label", .int k)] σ (dBody (inClass 15 11)) false [("self", .loc iw), ("label", .int k)] (σ ++ excG σ.length) := by
    apply sxE_head
    apply s_ifE_T
    · kln_le
    · rfl
    · apply sxE_head
      refine s_raise (j := σ.length) (d := some (σ.length + 1)) ?_ ?_
      · refine' ev_call (k := 2) ?a1 ?a2 ?a3 ?a4 ?a5 ?a6
        case a1 => kcf_m
        case a2 => kc_close
        case a3 => kcf_all
        case a4 => exact cl_fault rfl
        case a5 => exact Nat.le_refl _
        case a6 => intro _; rfl
      · simp
  refine cd_defE (xs := ["self", "label"]) ho_Writer_goal ?_ ?_ ?_ ?_ h ?_ ?_ ?_ ?_ <;> kqd_all
end SC6
section SC9
variable {G : Gl} {σ : List AO}
noncomputable abbrev codeO (ar n : Int) (rws : List AV) : AO := .idict [("name", .str "f"), ("arity", .int ar), ("slots", .int n), ("rows", .tup rws), ("static", .tup [.str "T.1"]), ("captures", .tup [.str "x"]), ("marks", .tup [.str "m"])]
theorem hw_of {C : Addr} : ∀ vs : List Value, (Code.builtin "type.__call__" ⟨.ref C :: vs, []⟩).weight ≤ 2 ∧ (Code.builtin "type.__call__" ⟨.ref C :: vs, []⟩).envs = [] ∧ (Code.builtin "type.__call__" ⟨.ref C :: vs, []⟩).cUnits ≤ 4 :=
  fun vs => ⟨Nat.le_of_ble_eq_true (by kernel_rfl!), by kernel_rfl!, Nat.le_of_ble_eq_true (by kernel_rfl!)⟩
theorem cl_Code {ar n : Int} {ir : Nat} {rws : List AV} (hr : σ[ir]? = some (.list rws)) (hz : rws.length ≤ sizeLine) :
    Cl G 2 (.ref 98) [.str "f", .int ar, .int n, .loc ir, .tup [.str "T.1"], .tup [.str "x"], .tup [.str "m"]] σ (.loc (σ.length + 1)) (σ ++ [codeO ar n rws, .inst 98 σ.length]) := by
  have hb : ∃ m', Sx G (cxF 0 "Code.__init__" (inClass 9 0) 88 (.ref 87)) [("self", .loc (σ.length + 1)), ("name", .str "f"), ("arity", .int ar), ("slots", .int n), ("rows", .loc ir), ("static", .tup [.str "T.1"]), ("captures", .tup [.str "x"]), ("marks", .tup [.str "m"])] (σ ++ [.idict []] ++ [.inst 98 σ.length]) (dBody (inClass 9 0)) .next m' (σ ++ [codeO ar n rws, .inst 98 σ.length]) := by
    have lt1 := (List.getElem?_eq_some_iff.mp hr).1
    apply sx_to
    · kt_eqs
      kt_eqs
      kt_eqs
      kt_eqs
      kt_eqs
      kt_eqs
      kt_eqs
      exact sx_nil
    · rfl
    · simp
  obtain ⟨m', h⟩ := hb
  refine cl_make (n := σ.length) (xs := ["self", "name", "arity", "slots", "rows", "static", "captures", "marks"]) ?_ ?_ ?_ hw_of rfl ho_Code_init ?_ (fun s ws X hl => by
    obtain ⟨a, b, c, d, e, f, g, i, q⟩ := len8 hl; subst q
    refine binds_K X rfl (o := ⟨.type "tuple", none, .seq #[.ref 78, .ref 79, .ref 80] 0, #[]⟩) (items := #[.ref 78, .ref 79, .ref 80]) (n := 0) (by kernel_rfl!) rfl (by rfl) ?_; rfl) ?_ ?_ h ?_ ?_ ?_ ?_ rfl <;> kqd_all
theorem cl_Writer {ar : Int} :
    Cl G 2 (.ref 260) [.str "f", .int ar, .tup [.str "T.1"], .tup [.str "x"]] σ (.loc (σ.length + 1)) (σ ++ [wO ar ar (σ.length + 2) (σ.length + 3) (σ.length + 4), .inst 260 σ.length, .list [], .list [], .list []]) := by
  have hb : ∃ m', Sx G (cxF 0 "Writer.__init__" (inClass 15 0) 173 (.ref 172)) [("self", .loc (σ.length + 1)), ("name", .str "f"), ("arity", .int ar), ("static", .tup [.str "T.1"]), ("captures", .tup [.str "x"])] (σ ++ [.idict []] ++ [.inst 260 σ.length]) (dBody (inClass 15 0)) .next m' (σ ++ [wO ar ar (σ.length + 2) (σ.length + 3) (σ.length + 4), .inst 260 σ.length, .list [], .list [], .list []]) := by
    apply sx_to
    · kt_eqs
      kt_eqs
      kt_eqs
      kt_eqs
      kt_eqs
      kt_eqs
      kt_eqs
      kt_eqs
      exact sx_nil
    · rfl
    · simp
  obtain ⟨m', h⟩ := hb
  refine cl_make (n := σ.length) (xs := ["self", "name", "arity", "static", "captures"]) ?_ ?_ ?_ hw_of rfl ho_Writer_init ?_ (fun s ws X hl => by
    obtain ⟨a, b, c, d, e, q⟩ := len5 hl; subst q
    refine binds_K X rfl (o := ⟨.type "tuple", none, .seq #[.ref 164, .ref 165] 0, #[]⟩) (items := #[.ref 164, .ref 165]) (n := 0) (by kernel_rfl!) rfl (by rfl) ?_; rfl) ?_ ?_ h ?_ ?_ ?_ ?_ rfl <;> kqd_all
noncomputable abbrev scO (p q : AV) (t : AV) : AO := .idict [("parent", p), ("places", q), ("told_global", t)]
theorem cl_Scope {p q t : AV} :
    Cl G 2 (.ref 152) [p, q, t] σ (.loc (σ.length + 1)) (σ ++ [scO p q t, .inst 152 σ.length]) := by
  have hb : ∃ m', Sx G (cxF 0 "Scope.__init__" (inClass 14 0) 135 (.ref 134)) [("self", .loc (σ.length + 1)), ("parent", p), ("places", q), ("told_global", t)] (σ ++ [.idict []] ++ [.inst 152 σ.length]) (dBody (inClass 14 0)) .next m' (σ ++ [scO p q t, .inst 152 σ.length]) := by
    apply sx_to
    · kt_eqs
      kt_eqs
      kt_eqs
      exact sx_nil
    · rfl
    · simp
  obtain ⟨m', h⟩ := hb
  refine cl_make (n := σ.length) (xs := ["self", "parent", "places", "told_global"]) ?_ ?_ ?_ hw_of rfl ho_Scope_init ?_ (fun s ws X hl => by
    obtain ⟨a, b, c, d, q⟩ := len4 hl; subst q
    refine binds_K X rfl (o := ⟨.type "tuple", none, .seq #[.ref 127] 0, #[]⟩) (items := #[.ref 127]) (n := 0) (by kernel_rfl!) rfl (by rfl) ?_; rfl) ?_ ?_ h ?_ ?_ ?_ ?_ rfl <;> kqd_all
end SC9
section SC19
/-! scopes -/
structure Lv where
  ps : List (PySem.Str × AV)
  tl : List PySem.Str
noncomputable def Lv.told (l : Lv) (x : PySem.Str) : Bool := (pyds (l.tl.map AV.str)).any fun z => PyData.eqv z (.str x)
noncomputable def Lv.has (x : PySem.Str) (l : Lv) : Bool := (lk x l.ps).isSome || l.told x
noncomputable def Lv.val (x : PySem.Str) (l : Lv) : AV := (lk x l.ps).getD .none
inductive Chain (σ : List AO) : AV → List Lv → Prop where
  | nil : Chain σ .none []
  | cons {i d q : Nat} {p : AV} {l : Lv} {ls : List Lv} : σ[i]? = some (.inst 152 d) → σ[d]? = some (scO p (.loc q) (.tup (l.tl.map AV.str))) → σ[q]? = some (.dict l.ps) → pls 8 (l.tl.map AV.str) = true → Chain σ p ls → Chain σ (.loc i) (l :: ls)
theorem Chain.on {σ σ' : List AO} (h : ∀ (i : Nat) (x : AO), σ[i]? = some x → (∀ vs, x ≠ .list vs) → (∀ v, x ≠ .cell v) → σ'[i]? = some x) {v : AV} {ls : List Lv} (c : Chain σ v ls) : Chain σ' v ls := by
  induction c with
  | nil => exact .nil
  | cons h1 h2 h3 h4 _ ih => exact .cons (h _ _ h1 (fun _ q => by cases q) (fun _ q => by cases q)) (h _ _ h2 (fun _ q => by cases q) (fun _ q => by cases q)) (h _ _ h3 (fun _ q => by cases q) (fun _ q => by cases q)) h4 ih
section
variable {G : Gl} {c : Cx} {σ : List AO} {t : Expr} {body : List Stmt} {mF : AV → List (PySem.Str × AV)} {has : Lv → Bool} {res : Lv → AV} {x : PySem.Str} {pos : Pos}
theorem wh_chain (hT0 : Tt G c (mF .none) σ t false σ) (hT1 : ∀ i, Tt G c (mF (.loc i)) σ t true σ)
    (hY : ∀ (i d q : Nat) (p : AV) (l : Lv), σ[i]? = some (.inst 152 d) → σ[d]? = some (scO p (.loc q) (.tup (l.tl.map AV.str))) → σ[q]? = some (.dict l.ps) → pls 8 (l.tl.map AV.str) = true → has l = true → ∃ m', Sx G c (mF (.loc i)) σ body (.ret (res l)) m' σ)
    (hN : ∀ (i d q : Nat) (p : AV) (l : Lv), (p = .none ∨ ∃ j, p = .loc j) → σ[i]? = some (.inst 152 d) → σ[d]? = some (scO p (.loc q) (.tup (l.tl.map AV.str))) → σ[q]? = some (.dict l.ps) → pls 8 (l.tl.map AV.str) = true → has l = false → Sx G c (mF (.loc i)) σ body .next (mF p) σ)
    {hv : AV} {ls : List Lv} (C : Chain σ hv ls) : ∃ m', Wh G c t body (mF hv) σ (match ls.find? has with | some l => .ret (res l) | none => .next) m' σ := by
  induction C with
  | nil => exact ⟨_, .done hT0⟩
  | @cons i d q p l ls h1 h2 h3 h4 hc ih =>
    have hps : p = .none ∨ ∃ j, p = .loc j := by
      cases hc with
      | nil => exact .inl rfl
      | cons => exact .inr ⟨_, rfl⟩
    cases hl : has l with
    | true =>
      obtain ⟨m', h⟩ := hY i d q p l h1 h2 h3 h4 hl
      refine ⟨m', ?_⟩
      rw [List.find?_cons_of_pos hl]
      exact .ret (hT1 i) h
    | false =>
      obtain ⟨m', h⟩ := ih
      refine ⟨m', ?_⟩
      rw [List.find?_cons_of_neg (by simp [hl])]
      exact .turn (hT1 i) (hN i d q p l hps h1 h2 h3 h4 hl) h
end
noncomputable def findV (x : PySem.Str) (ls : List Lv) : AV := match ls.find? (Lv.has x) with | some l => l.val x | none => .none
noncomputable def knownV (x : PySem.Str) (ls : List Lv) : Bool := (ls.find? (Lv.has x)).isSome
noncomputable abbrev mFi (sv : AV) (x : PySem.Str) (hv : AV) : List (PySem.Str × AV) := [("self", sv), ("name", .str x), ("here", hv)]
theorem pls_up {vs : List PySem.Str} (h : pls 8 (vs.map AV.str) = true) : pls 9 (vs.map AV.str) = true := by
  rw [pls_iff] at h ⊢
  intro v hv
  have := h v hv
  obtain ⟨y, _, rfl⟩ := List.mem_map.mp hv
  exact this
section
variable {G : Gl} {σ : List AO} {x : PySem.Str} {sv : AV} {ls : List Lv}
noncomputable def fLoop : Stmt := (dBody (inClass 14 1)).getD 1 noStmt
noncomputable def fT : Expr := whT fLoop
noncomputable def fB : List Stmt := whB fLoop
theorem fLoop_is : ∃ q, fLoop = .While fT fB [] q := ⟨_, rfl⟩
noncomputable abbrev cxFi : Cx := cxF 0 "Scope.find" (inClass 14 1) 142 (.ref 141)
theorem find_wh (C : Chain σ sv ls) (hx : PyData.strOk x = true) {hv : AV} (C' : Chain σ hv ls) :
    ∃ m', Wh G cxFi fT fB (mFi sv x hv) σ (match ls.find? (Lv.has x) with | some l => .ret (l.val x) | none => .next) m' σ := by
  have hxp : pl 9 (.str x) = true := hx
  refine wh_chain (res := fun l => l.val x) (mF := mFi sv x) ?_ ?_ ?_ ?_ C'
  · refine' tt_cmp (cm_of ?a ?b ?c) ?d
    case a => kpt_turns
    case b => kpt_turns
    case c => exact op_isntN_none
    case d => with_unfolding_all rfl
  · intro i
    refine' tt_cmp (cm_of ?a ?b ?c) ?d
    case a => kpt_turns
    case b => kpt_turns
    case c => exact op_isntN_loc
    case d => with_unfolding_all rfl
  · intro i d q p l h1 h2 h3 h4 hh
    have h4' := pls_up h4
    cases hl : lk x l.ps with
    | some v =>
      refine ⟨mFi sv x (.loc i), ?_⟩
      have hv : l.val x = v := by unfold Lv.val; rw [hl]; rfl
      rw [hv]
      refine' sx_stop ?a ?b
      case a =>
        refine' s_if_T ?c ?d ?e
        case c => kln_le
        case d => rw [hl]; rfl
        case e => kt_eqs
      case b => intro q; cases q
    | none =>
      have ht : l.told x = true := by unfold Lv.has at hh; rw [hl] at hh; simpa using hh
      refine ⟨mFi sv x (.loc i), ?_⟩
      have hv : l.val x = .none := by unfold Lv.val; rw [hl]; rfl
      rw [hv]
      refine' sx_next ?a ?b
      case a =>
        refine' s_if_F0 ?c ?d
        case c => kln_le
        case d => rw [hl]; rfl
      case b =>
        refine' sx_stop ?e ?f
        case e =>
          refine' s_if_T ?g ?h ?i
          case g => kln_le
          case h => exact ht
          case i => kt_eqs
        case f => intro q; cases q
  · intro i d q p l hps h1 h2 h3 h4 hh
    have h4' := pls_up h4
    have hl : (lk x l.ps).isSome = false := by unfold Lv.has at hh; simp at hh; simp [hh.1]
    have ht : l.told x = false := by unfold Lv.has at hh; simp at hh; exact hh.2
    rcases hps with rfl | ⟨j, rfl⟩
    · refine' sx_next ?a ?b
      case a =>
        refine' s_if_F0 ?c ?d
        case c => kln_le
        case d => exact hl
      case b =>
        refine' sx_next ?e ?f
        case e =>
          refine' s_if_F0 ?g ?h
          case g => kln_le
          case h => exact ht
        case f =>
          refine' sx_next ?i ?j
          case i => kst_p
          case j => exact sx_nil
    · refine' sx_next ?a ?b
      case a =>
        refine' s_if_F0 ?c ?d
        case c => kln_le
        case d => exact hl
      case b =>
        refine' sx_next ?e ?f
        case e =>
          refine' s_if_F0 ?g ?h
          case g => kln_le
          case h => exact ht
        case f =>
          refine' sx_next ?i ?j
          case i => kst_p
          case j => exact sx_nil
theorem cw_find (C : Chain σ sv ls) (hx : PyData.strOk x = true) : Cl G 1 (.ref 142) [sv, .str x] σ (findV x ls) σ := by
  have h : ∃ m', Sx G cxFi [("self", sv), ("name", .str x)] σ (dBody (inClass 14 1)) (.ret (findV x ls)) m' σ := by
    obtain ⟨m', W⟩ := find_wh (G := G) C hx C
    obtain ⟨q, hq⟩ := fLoop_is
    have h1 : S1 G cxFi [("self", sv), ("name", .str x)] σ ((dBody (inClass 14 1)).headD noStmt) .next (mFi sv x sv) σ := by
      refine' s_assign ?a ?b ?c
      case a => kpt_turns
      case b => kd_p1
      case c => intro _; rfl
    have hb : dBody (inClass 14 1) = [(dBody (inClass 14 1)).headD noStmt, fLoop, (dBody (inClass 14 1)).getD 2 noStmt] := by rfl
    rw [hb, hq]
    unfold findV
    cases hf : ls.find? (Lv.has x) with
    | some l =>
      rw [hf] at W
      exact ⟨m', sx_next h1 (sx_stop (s_while W) (by intro q; cases q))⟩
    | none =>
      rw [hf] at W
      refine ⟨m', sx_next h1 (sx_next (s_while W) ?_)⟩
      refine' sx_stop ?a ?b
      case a =>
        refine' s_ret ?c
        case c => kpt_turns
      case b => intro q; cases q
  obtain ⟨m', h⟩ := h
  refine cl_def (xs := ["self", "name"]) ho_Scope_find ?_ ?_ ?_ ?_ h ?_ ?_ ?_ ?_ ?_ <;> kqd_all
noncomputable def iLoop : Stmt := (dBody (inClass 14 2)).getD 1 noStmt
noncomputable def iT : Expr := whT iLoop
noncomputable def iB : List Stmt := whB iLoop
theorem iLoop_is : ∃ q, iLoop = .While iT iB [] q := ⟨_, rfl⟩
noncomputable abbrev cxIk : Cx := cxF 0 "Scope.is_known" (inClass 14 2) 149 (.ref 148)
theorem known_wh (C : Chain σ sv ls) (hx : PyData.strOk x = true) {hv : AV} (C' : Chain σ hv ls) :
    ∃ m', Wh G cxIk iT iB (mFi sv x hv) σ (match ls.find? (Lv.has x) with | some l => .ret (.bool true) | none => .next) m' σ := by
  have hxp : pl 9 (.str x) = true := hx
  refine wh_chain (res := fun l => .bool true) (mF := mFi sv x) ?_ ?_ ?_ ?_ C'
  · refine' tt_cmp (cm_of ?a ?b ?c) ?d
    case a => kpt_turns
    case b => kpt_turns
    case c => exact op_isntN_none
    case d => with_unfolding_all rfl
  · intro i
    refine' tt_cmp (cm_of ?a ?b ?c) ?d
    case a => kpt_turns
    case b => kpt_turns
    case c => exact op_isntN_loc
    case d => with_unfolding_all rfl
  · intro i d q p l h1 h2 h3 h4 hh
    have h4' := pls_up h4
    refine ⟨mFi sv x (.loc i), ?_⟩
    refine' sx_stop ?a ?b
    case a =>
      refine' s_if_T (y := true) ?c ?d ?e
      case c =>
        refine' tt_bop ?oa
        case oa =>
          cases hl : (lk x l.ps).isSome with
          | true =>
            refine' at_or_T ?ob ?oc
            case ob => kln_le
            case oc => exact hl
          | false =>
            refine' at_or_F ?ob ?oc ?od
            case ob => kln_le
            case oc => exact hl
            case od =>
              refine' at_or_T ?oe ?of
              case oe => kln_le
              case of =>
                unfold Lv.has at hh
                rw [hl, Bool.false_or] at hh
                exact hh
      case d => rfl
      case e => kt_eqs
    case b => intro q; cases q
  · intro i d q p l hps h1 h2 h3 h4 hh
    have h4' := pls_up h4
    have hl : (lk x l.ps).isSome = false := by unfold Lv.has at hh; simp at hh; simp [hh.1]
    have ht : l.told x = false := by unfold Lv.has at hh; simp at hh; exact hh.2
    rcases hps with rfl | ⟨j, rfl⟩
    · refine' sx_next ?a ?b
      case a =>
        refine' s_if_F0 (y := false) ?c ?d
        case c =>
          refine' tt_bop ?oa
          case oa =>
            refine' at_or_F ?ob ?oc ?od
            case ob => kln_le
            case oc => exact hl
            case od =>
              refine' at_or_F ?oe ?of ?og
              case oe => kln_le
              case of => exact ht
              case og => exact at_or_nil
        case d => rfl
      case b =>
        refine' sx_next ?i ?j
        case i => kst_p
        case j => exact sx_nil
    · refine' sx_next ?a ?b
      case a =>
        refine' s_if_F0 (y := false) ?c ?d
        case c =>
          refine' tt_bop ?oa
          case oa =>
            refine' at_or_F ?ob ?oc ?od
            case ob => kln_le
            case oc => exact hl
            case od =>
              refine' at_or_F ?oe ?of ?og
              case oe => kln_le
              case of => exact ht
              case og => exact at_or_nil
        case d => rfl
      case b =>
        refine' sx_next ?i ?j
        case i => kst_p
        case j => exact sx_nil
theorem cw_known (C : Chain σ sv ls) (hx : PyData.strOk x = true) : Cl G 1 (.ref 149) [sv, .str x] σ (.bool (knownV x ls)) σ := by
  have h : ∃ m', Sx G cxIk [("self", sv), ("name", .str x)] σ (dBody (inClass 14 2)) (.ret (.bool (knownV x ls))) m' σ := by
    obtain ⟨m', W⟩ := known_wh (G := G) C hx C
    obtain ⟨q, hq⟩ := iLoop_is
    have h1 : S1 G cxIk [("self", sv), ("name", .str x)] σ ((dBody (inClass 14 2)).headD noStmt) .next (mFi sv x sv) σ := by
      refine' s_assign ?a ?b ?c
      case a => kpt_turns
      case b => kd_p1
      case c => intro _; rfl
    have hb : dBody (inClass 14 2) = [(dBody (inClass 14 2)).headD noStmt, iLoop, (dBody (inClass 14 2)).getD 2 noStmt] := by rfl
    rw [hb, hq]
    unfold knownV
    cases hf : ls.find? (Lv.has x) with
    | some l =>
      rw [hf] at W
      exact ⟨m', sx_next h1 (sx_stop (s_while W) (by intro q; cases q))⟩
    | none =>
      rw [hf] at W
      refine ⟨m', sx_next h1 (sx_next (s_while W) ?_)⟩
      show Sx G cxIk m' σ [(dBody (inClass 14 2)).getD 2 noStmt] (.ret (.bool false)) m' σ
      refine' sx_stop ?a ?b
      case a =>
        refine' s_ret ?c
        case c => kpt_turns
      case b => intro q; cases q
  obtain ⟨m', h⟩ := h
  refine cl_def (xs := ["self", "name"]) ho_Scope_is_known ?_ ?_ ?_ ?_ h ?_ ?_ ?_ ?_ ?_ <;> kqd_all
end
end SC19
section SC29
/-! the law's argument: a list of the base heap -/
noncomputable def IsScript (sa : Addr) (xs : List Int) (h : Heap) : Prop := ∃ o ws n, h.get? sa = some o ∧ o.cls = .type "list" ∧ o.data = .seq ws n ∧ IntsAre ws.toList xs
theorem IsScript.keep {sa : Addr} {xs : List Int} {h h' : Heap} (s : IsScript sa xs h) (hk : ∀ b o, h.get? b = some o → h'.get? b = some o) : IsScript sa xs h' := by
  obtain ⟨o, ws, n, e, r⟩ := s
  exact ⟨o, ws, n, hk _ _ e, r⟩
section
variable {G : Gl} {c : Cx} {F : Fm} {ω : Wd} {m : List (PySem.Str × AV)} {σ : List AO} {h : Heap} {sa : Addr} {xs : List Int}
theorem St.script (S : St G c F ω m σ h) (hpb : ∀ b, G.pb b → IsScript sa xs b) : IsScript sa xs h := by
  obtain ⟨M, Fh, _⟩ := S.lo
  exact ((hpb _ S.PB).keep S.B.stays).keep Fh.keep
theorem readsAll_ints {h : Heap} : ∀ {ws : List Value} {xs : List Int}, IntsAre ws xs → ReadsAll h ws (xs.map PyData.int) []
  | _, _, .nil => .nil
  | _, _, .cons n t r => .cons (as := []) (.int n t) (readsAll_ints r)
theorem IsScript.reads (s : IsScript sa xs h) : Reads h (.ref sa) (.list (xs.map PyData.int)) [sa] := by
  obtain ⟨o, ws, n, e, hc, hd, hi⟩ := s
  exact .list e hc hd (readsAll_ints hi)
theorem canLay_ints : ∀ xs : List Int, PyData.canLayAll0 (xs.map PyData.int) = true
  | [] => rfl
  | x :: xs => by
    simp only [List.map_cons, PyData.canLayAll0, canLay_ints xs, Bool.and_true]
    rfl
theorem depth_ints : ∀ xs : List Int, PyData.depthAll (xs.map PyData.int) ≤ 1
  | [] => by simp [PyData.depthAll]
  | x :: xs => by
    have := depth_ints xs
    simp only [List.map_cons, PyData.depthAll, PyData.depth]
    omega
theorem shaped_ints : SeqAt.shaped (.list (xs.map PyData.int)) = true := by
  unfold SeqAt.shaped
  have h1 : (PyData.list (xs.map PyData.int)).canLay0 = true := by simp only [PyData.canLay0]; exact canLay_ints xs
  have h2 : (PyData.list (xs.map PyData.int)).depth ≤ 20 := by
    have := depth_ints xs
    simp only [PyData.depth]; omega
  rw [h1, Bool.true_and]; exact decide_eq_true (Nat.le_trans h2 (by decide))
theorem cm_script (hpb : ∀ b, G.pb b → IsScript sa xs b) {p q : Pos} (hn : Ev G c m σ (.Name "script" p) (.glob (.ref sa)) σ) : Cm G c m σ (.Name "script" p) .NotEq (.List [] q) (.bool (!xs.isEmpty)) σ := fun F ω s S Q E pp =>
  hn F ω s S _ E fun ω₁ a' h₁ t₁ l1 S₁ ra => by
    cases ra
    refine wpAny_List (evs_nil (G := G) (c := c) (m := m) (σ := σ) F ω₁ { s with heap := h₁, toks := t₁ } _ S₁ _ E fun ω₂ ws h₂ t₂ l2 S₂ hv => ?_)
    cases hv
    refine ⟨Nat.zero_le _, ?_⟩
    have S₃ := S₂.grow (h' := h₂.push { cls := .type "list", data := .seq ([] : List Value).toArray }) (fun b o e => Heap.get?_push_of_some _ e)
    have r1 := (S₃.script hpb).reads
    have r2 : Reads (h₂.push { cls := .type "list", data := .seq ([] : List Value).toArray }) (.ref h₂.objs.size) (.list []) _ := reads_list_at (Heap.get?_push_size _ rfl) rfl rfl .nil
    have sh : SeqAt.shaped (.list []) = true := by rfl
    refine ne_dataH r1 r2 shaped_ints sh (by have := S.hU; show F.A.units + 64 < 9900; omega) ?_
    have e : (!PyData.eqv (.list (xs.map PyData.int)) (.list [])) = !xs.isEmpty := by
      show (!PyData.eqvAll (xs.map PyData.int) []) = _
      cases xs <;> simp [PyData.eqvAll]
    rw [e]
    exact (pp.on (l1.trans l2)).here S₃ (.bool _)
theorem it_script {x : Int} {r : List Int} {sl : Expr} (hpb : ∀ b, G.pb b → IsScript sa (x :: r) b) (hs : plainSub sl := by ked_read) : It G sl σ (.glob (.ref sa)) (.int 0) (.int x) σ := fun value c F ω m s a' i' S ha hb Q E p => by
  cases ha
  cases hb
  obtain ⟨o, ws, n, e, hc, hd, hi⟩ := S.script hpb
  obtain ⟨wl⟩ := ws
  cases hi with
  | cons _ t hr =>
  have hL : s.heap.IsList sa _ := ⟨o, e, hc, n, hd⟩
  exact tail_any hL.typeIs slot_list_getitem.lookup (wpAny_getItem_list hL (by decide) (by decide) (by rfl) (p.here S (.int x t))) (hs _ _)
noncomputable def kgIf : Expr := asgE ((dBody (atTop 17)).headD noStmt)
theorem kg_0 (hpb : ∀ b, G.pb b → IsScript sa xs b) : ∃ told : Int, S1 G ⟨0, "_law_keg", dScope (atTop 17), 271, .ref 270, [], none⟩ [("script", .glob (.ref sa))] σ ((dBody (atTop 17)).headD noStmt) .next [("script", .glob (.ref sa)), ("told", .int told)] σ := by
  have hn : ∀ {p : Pos}, Ev G ⟨0, "_law_keg", dScope (atTop 17), 271, .ref 270, [], none⟩ [("script", .glob (.ref sa))] σ (.Name "script" p) (.glob (.ref sa)) σ := fun {p} => by kpt_turns
  cases xs with
  | nil =>
    refine ⟨0, ?_⟩
    refine' s_assign ?a ?b ?c
    case a =>
      refine' ev_if_F ?d ?e ?f
      case d => exact tt_cmp (cm_script hpb hn) (by with_unfolding_all rfl)
      case e => rfl
      case f => kpt_turns
    case b => kd_p1
    case c => intro _; rfl
  | cons x r =>
    refine ⟨x, ?_⟩
    refine' s_assign ?a ?b ?c
    case a =>
      refine' ev_if_T ?d ?e ?f
      case d => exact tt_cmp (cm_script hpb hn) (by with_unfolding_all rfl)
      case e => rfl
      case f =>
        refine' ev_sub ?g ?h ?i
        case g => exact hn
        case h => kpt_turns
        case i => exact it_script hpb (by intro _ _; rfl)
    case b => kd_p1
    case c => intro _; rfl
theorem op_pow16 : Op2 G (binaryOp .Pow) σ (.int 10) (.int 16) (.int ((10 : Int) ^ (16 : Int).toNat)) σ := fun c F ω m s a' b' S ra rb Q E p => by
  cases ra; cases rb
  exact PySem.AutoIntOps.pow_4 (by decide) (by decide) (by decide) (by decide) (by decide +kernel) (p.tok S (.int _ _) _)
noncomputable abbrev cxKg : Cx := ⟨0, "_law_keg", dScope (atTop 17), 271, .ref 270, [], none⟩
theorem kg_1 {told : Int} : ∃ size : Int, S1 G cxKg [("script", .glob (.ref sa)), ("told", .int told)] σ ((dBody (atTop 17)).getD 1 noStmt) .next [("script", .glob (.ref sa)), ("told", .int told), ("size", .int size)] σ := by
  cases h : decide ((0 : Int) ≤ told) with
  | true =>
    refine ⟨told, ?_⟩
    refine' s_assign ?a ?b ?c
    case a =>
      refine' ev_if_T ?d ?e ?f
      case d => kln_le
      case e => exact h
      case f => kpt_turns
    case b => kd_p1
    case c => intro _; rfl
  | false =>
    refine ⟨-1 - told, ?_⟩
    refine' s_assign ?a ?b ?c
    case a =>
      refine' ev_if_F ?d ?e ?f
      case d => kln_le
      case e => exact h
      case f => kpt_turns
    case b => kd_p1
    case c => intro _; rfl
theorem kg_2 {told size : Int} : ∃ a b : Int, S1 G cxKg [("script", .glob (.ref sa)), ("told", .int told), ("size", .int size)] σ ((dBody (atTop 17)).getD 2 noStmt) (.ret (.loc σ.length)) [("script", .glob (.ref sa)), ("told", .int told), ("size", .int size)] (σ ++ [.list [.int a, .int b]]) := by
  cases h : decide ((10 : Int) ^ (16 : Int).toNat < size) with
  | true =>
    refine ⟨size, ?b, ?_⟩
    rotate_left
    · refine' s_ret ?c
      case c =>
        refine' ev_list ?d ?e
        case d =>
          refine' evs_cons ?f ?g ?h
          case f =>
            refine' ev_if_T ?i ?j ?k
            case i =>
              refine' tt_cmp (cm_of ?l (ev_bin ?m ?n op_pow16) op_gt) ?o
              case l => kpt_turns
              case m => kpt_turns
              case n => kpt_turns
              case o => with_unfolding_all rfl
            case j => exact h
            case k => kpt_turns
          case g => kc_close
          case h => intro _; rfl
        case e => exact Nat.le_of_ble_eq_true rfl
  | false =>
    refine ⟨0, ?b, ?_⟩
    rotate_left
    · refine' s_ret ?c
      case c =>
        refine' ev_list ?d ?e
        case d =>
          refine' evs_cons ?f ?g ?h
          case f =>
            refine' ev_if_F ?i ?j ?k
            case i =>
              refine' tt_cmp (cm_of ?l (ev_bin ?m ?n op_pow16) op_gt) ?o
              case l => kpt_turns
              case m => kpt_turns
              case n => kpt_turns
              case o => with_unfolding_all rfl
            case j => exact h
            case k => kpt_turns
          case g => kc_close
          case h => intro _; rfl
        case e => exact Nat.le_of_ble_eq_true rfl
theorem kgBody_is : dBody (atTop 17) = [(dBody (atTop 17)).headD noStmt, (dBody (atTop 17)).getD 1 noStmt, (dBody (atTop 17)).getD 2 noStmt] := by rfl
theorem cl_keg (hpb : ∀ b, G.pb b → IsScript sa xs b) : ∃ a b : Int, Cl G 1 (.ref 271) [.glob (.ref sa)] σ (.loc σ.length) (σ ++ [.list [.int a, .int b]]) := by
  obtain ⟨told, h0⟩ := kg_0 (G := G) (σ := σ) hpb
  obtain ⟨size, h1⟩ := kg_1 (G := G) (σ := σ) (sa := sa) (told := told)
  obtain ⟨a, b, h2⟩ := kg_2 (G := G) (σ := σ) (sa := sa) (told := told) (size := size)
  refine ⟨a, b, ?_⟩
  have h : Sx G cxKg [("script", .glob (.ref sa))] σ (dBody (atTop 17)) (.ret (.loc σ.length)) [("script", .glob (.ref sa)), ("told", .int told), ("size", .int size)] (σ ++ [.list [.int a, .int b]]) := by
    rw [kgBody_is]
    exact sx_next h0 (sx_next h1 (sx_stop h2 (by intro q; cases q)))
  refine cl_def (xs := ["script"]) ho_law_keg ?_ ?_ ?_ ?_ h ?_ ?_ ?_ ?_ ?_ <;> kqd_all
end
end SC29
section SC7a
theorem gar_nil {σ : List AO} : σ = σ ++ [] := (List.append_nil σ).symm
theorem gar_app {σ τ g l : List AO} (h : τ = σ ++ g) : τ ++ l = σ ++ (g ++ l) := by rw [h, List.append_assoc]
theorem gar_set {σ τ g : List AO} {i : Nat} {x : AO} (h : τ = σ ++ g) (hi : σ.length ≤ i) : τ.set i x = σ ++ g.set (i - σ.length) x := by rw [h, List.set_append_right _ _ hi]
section
variable {G : Gl} {c : Cx} {m m' : List (PySem.Str × AV)} {ss : List Stmt} {fl fl' : AF} {σ σ₀ σ₁ σ' g : List AO} {e : Expr} {y : Bool} {i : Nat} {x : AO} {vs : List AV}
theorem ts_F (h : Tt G c m σ e y σ') (hy : y = false) : Ts G c m σ [e] false σ' := hy ▸ ts_one h
theorem ts_T (h : Tt G c m σ e y σ') (hy : y = true) : Ts G c m σ [e] true σ' := hy ▸ ts_one h
theorem sx_goal (h : Sx G c m σ ss fl m' σ₁) (e1 : fl = fl') (e2 : σ₁ = σ₀ ++ g) (e3 : g[i]? = some x) : ∃ m' g, g[i]? = some x ∧ Sx G c m σ ss fl' m' (σ₀ ++ g) := by
  subst e1 e2; exact ⟨_, _, e3, h⟩
theorem tru_list (hi : σ[i]? = some (.list vs)) (hz : vs.length ≤ 900) : Tru G σ (.loc i) (!vs.isEmpty) := fun c F ω m s a' S r Q E q => by
  obtain ⟨y, ws, n, rfl, _, hl, hw⟩ := S.lst hi r
  refine wpAny_truthy_list (isList_of hl) (by rw [List.size_toArray, hw.length]; omega) ?_
  have e : (!ws.toArray.isEmpty) = !vs.isEmpty := by
    cases hw <;> simp
  rw [e]
  exact q _
end
end SC7a
local macro_rules | `(tactic| kpt_turns) => `(tactic| (
  with_reducible refine' ev_sl_from ?ha ?hb ?hc ?hd ?he ?hf
  case ha => kpt_turns
  case hb => decide
  case hc => decide
  case hd => kwd_inv
  case he => kwd_inv
  case hf =>
    intro _ _
    rfl))
local macro_rules | `(tactic| kaf_pre) => `(tactic| (
  with_reducible refine' cl_zip ?ha ?hb
  case ha => with_reducible rfl
  case hb => decide +kernel))
local macro_rules | `(tactic| kpf_c) => `(tactic| with_reducible exact op_in_str)
local macro_rules | `(tactic| kd_adr) => `(tactic| (
  refine' dr_zip ?na ?nb ?nc ?nd ?ne ?nf ?ng
  case na => krn_off
  case nb => krn_off
  case nc => krn_off
  case nd => krn_off
  case ne => rfl
  case nf => rfl
  case ng =>
    refine' as_tuple ?ka ?kb ?kc
    case ka => kst_mem
    case kb =>
      intro _
      rfl
    case kc =>
      intro _
      rfl))
local macro_rules | `(tactic| kst_mem) => `(tactic|
  first
    | with_reducible exact ass_nil
    | refine' ass_cons ?ha ?hb ?hc
      case ha =>
        refine' as_name ?ka
        case ka => kd_p1
      case hb => kst_mem
      case hc =>
        intro _
        rfl)
local macro_rules | `(tactic| kd_facts) => `(tactic| (
  refine' nd_zip ?na ?nb ?nc
  case na => krn_off
  case nb => krn_off
  case nc => kernel_rfl!))
local macro_rules | `(tactic| ktr_unf) => `(tactic| (
  refine' Lp.done ?ha
  case ha => kd_facts))
local macro_rules | `(tactic| keq_hits) => `(tactic| (
  refine' Lp.skip ?ha ?hb ?hc
  case ha => kd_adr
  case hb =>
    refine' ts_F ?ka ?kb
    case ka => kln_le
    case kb => kernel_rfl!
  case' hc => skip))
local macro_rules | `(tactic| kd_subs) => `(tactic| (
  refine' Lp.keep ?ha ?hb ?hc ?hd ?he ?hf
  case ha => kd_adr
  case hb =>
    refine' ts_T ?ka ?kb
    case ka => kln_le
    case kb => kernel_rfl!
  case hc => kpt_turns
  case hd => krn_off
  case he => kwd_inv
  case' hf => skip))
local macro_rules | `(tactic| ksw_less) => `(tactic|
  first
    | with_reducible exact gar_nil
    | with_reducible refine' gar_app ?ha
      case ha => ksw_less
    | with_reducible refine' gar_set ?ha ?hb
      case ha => ksw_less
      case hb =>
        first
          | omega
          | simp only [List.length_cons, List.length_nil, List.length_append, List.length_set]
            omega)
section SC7b
variable {G : Gl} {σ : List AO}
noncomputable def Rw.nm : Rw → PySem.Str
  | .const _ _ => "const" | .move _ _ => "move" | .call _ _ _ => "call" | .goto _ => "goto" | .unless _ _ => "unless" | .ret _ => "return" | .rethrow => "rethrow" | .setg _ => "setglobal"
noncomputable def Rw.rest : Rw → List AV
  | .const n c => [.int n, c] | .move a b => [.int a, .int b] | .call a b xs => [.int a, .int b, .tup xs] | .goto l => [.int l] | .unless s l => [.int s, .int l] | .ret s => [.int s] | .rethrow => [] | .setg s => [.str "x", .int s]
theorem Rw.av_eq (r : Rw) : r.av = .tup (.str r.nm :: r.rest) := by cases r <;> rfl
noncomputable def Rw.sh : Rw → PySem.Str
  | .const _ _ => ⟨#[100, 120]⟩ | .move _ _ => ⟨#[100, 115]⟩ | .call _ _ _ => ⟨#[100, 115, 109]⟩ | .goto _ => ⟨#[103]⟩ | .unless _ _ => ⟨#[115, 103]⟩ | .ret _ => ⟨#[115]⟩ | .rethrow => ⟨#[]⟩ | .setg _ => ⟨#[120, 115]⟩
theorem Rw.shape (r : Rw) : ∃ t, findBy (strKind P0 G.w).is (shapesEs G.w.params).toArray r.nm = some (.str r.sh t) := by
  cases r with
  | const _ _ => exact ⟨264, by kernel_rfl!⟩
  | move _ _ => exact ⟨267, by kernel_rfl!⟩
  | call _ _ _ => exact ⟨282, by kernel_rfl!⟩
  | goto _ => exact ⟨306, by kernel_rfl!⟩
  | «unless» _ _ => exact ⟨309, by kernel_rfl!⟩
  | ret _ => exact ⟨312, by kernel_rfl!⟩
  | rethrow => exact ⟨321, by kernel_rfl!⟩
  | setg _ => exact ⟨273, by kernel_rfl!⟩
theorem Rw.shLen (r : Rw) : r.sh.length = r.rest.length := by cases r <;> rfl
theorem cl_shape_of {nm y : PySem.Str} {rest : List AV} {t : Tok} (hx : findBy (strKind P0 G.w).is (shapesEs G.w.params).toArray nm = some (.str y t)) (hl : y.length = rest.length) (hz : rest.length < 100) :
    Cl G 1 (.ref 109) [.tup (.str nm :: rest)] σ (.str y) σ := by
  have h : ∃ m', Sx G (cxF 0 "shape_of" (atTop 10) 109 (.ref 108)) [("row", .tup (.str nm :: rest))] σ (dBody (atTop 10)) (.ret (.str y)) m' σ := by
    apply sx_to
    · refine' sx_next ?ha ?hb
      case ha =>
        refine' s_assign ?a1 ?a2 ?a3
        case a1 =>
          refine' ev_callm ?b1 ?b2 ?b3 ?b4 ?b5 ?b6 ?b7 ?b8 ?b9 ?b10
          case b1 => kpt_turns
          case b2 => exact gm_shapes
          case b3 => kc_close
          case b4 => exact kp_B
          case b5 => exact cl_shapes hx
          case b6 => exact Nat.zero_le _
          case b7 => intro _; rfl
          case b8 => rfl
          case b9 => intro _; rfl
          case b10 => rfl
        case a2 => kd_p1
        case a3 => intro _; rfl
      case' hb => skip
      refine' sx_next ?hc ?hd
      case hc =>
        refine' s_if_F0 ?c1 ?c2
        case c1 =>
          apply tt_bop
          apply at_or_F
          · kln_le
          · rfl
          apply at_or_F
          · kln_le
          · simp [hl]
          exact at_or_nil
        case c2 => rfl
      case' hd => skip
      kt_eqs
    · rfl
    · rfl
  obtain ⟨m', h⟩ := h
  refine cl_def (xs := ["row"]) ho_shape_of ?_ ?_ ?_ ?_ h ?_ ?_ ?_ ?_ ?_ <;> kqd_all
theorem cl_shape (r : Rw) : Cl G 1 (.ref 109) [r.av] σ (.str r.sh) σ := by
  obtain ⟨t, h⟩ := r.shape (G := G)
  rw [r.av_eq]
  exact cl_shape_of h r.shLen (by cases r <;> simp [Rw.rest])
noncomputable def Rw.goals : Rw → List AV
  | .goto l => [.int l] | .unless _ l => [.int l] | _ => []
noncomputable def gComp : Expr := retE ((dBody (atTop 11)).headD noStmt)
noncomputable def gElt : Expr := lcE gComp
noncomputable def gTg : Expr := (lcG gComp).target
noncomputable def gIter : Expr := (lcG gComp).iter
noncomputable def gIf : Expr := (lcG gComp).ifs.headD noExpr
noncomputable def gSc : Scope := lcS gComp
theorem gElt_is : ∃ q0, gElt = .Name "part" q0 := ⟨_, rfl⟩
theorem gTg_is : ∃ q1 q2 q3, gTg = .Tuple [.Name "letter" q1, .Name "part" q2] 0 q3 := ⟨_, _, _, rfl⟩
theorem gIf_is : ∃ q4 q5 q6, gIf = .Compare (.Name "letter" q4) [.Eq] [.Constant (.str "g") 0 q5] q6 := ⟨_, _, _, rfl⟩
theorem gIter_is : ∃ p1 p2 p3 p4 p5 p6 p7 p8 p9, gIter = .Call (.Name "zip" p1) [.Call (.Name "shape_of" p2) [.Name "row" p3] [] p4, .Subscript (.Name "row" p5) (.Slice (some (.Constant (.int 1) 0 p6)) none none p7) p8] [] p9 := ⟨_, _, _, _, _, _, _, _, _, rfl⟩
theorem gBody_is : ∃ q7 q8, dBody (atTop 11) = [.Return (some (.ListComp gElt [⟨gTg, gIter, [gIf], 0⟩] gSc q7)) q8] := ⟨_, _, rfl⟩
noncomputable abbrev cxG : Cx := cxF 1 "goals_of" (atTop 11) 114 (.ref 113)
/-- what is picked from here on -/
noncomputable def pick (y : PySem.Str) (vs : List AV) (k : Nat) : List AV := ((y.cps.toList.zip vs).drop k).filterMap fun p => if p.1 = 103 then some p.2 else none
/-- amid the picking: the zip at N + 3, the list at N + 4, the names at N + 5 -/
structure GH (σ σ0 : List AO) (y : PySem.Str) (vs : List AV) (k : Nat) (acc : List AV) : Prop where
  gr : ∃ g, σ = σ0 ++ g
  h1 : σ[σ0.length]? = some (.sit y k)
  h2 : σ[σ0.length + 1]? = some (.tit vs k)
  ho : σ[σ0.length + 2]? = some .own
  hz : σ[σ0.length + 3]? = some (.zip (.tup [.loc σ0.length, .loc (σ0.length + 1)]) (σ0.length + 2))
  hl : σ[σ0.length + 4]? = some (.list acc)
  hn : ∃ mb, σ[σ0.length + 5]? = some (.ns mb) ∧ ∀ u w, put "part" w (put "letter" u mb) = [(("letter" : PySem.Str), u), (("part" : PySem.Str), w)]
theorem gr_set {σ σ0 : List AO} {i : Nat} {x : AO} (h : ∃ g, σ = σ0 ++ g) (hi : σ0.length ≤ i) : ∃ g, σ.set i x = σ0 ++ g := by
  obtain ⟨g, e⟩ := h
  exact ⟨_, gar_set e hi⟩
theorem ev_eq {c : Cx} {m : List (PySem.Str × AV)} {σ σ' σ'' : List AO} {e : Expr} {v v' : AV} (h : Ev G c m σ e v σ') (hv : v = v') (hs : σ' = σ'') : Ev G c m σ e v' σ'' := hv ▸ hs ▸ h
theorem tt_eq {c : Cx} {m : List (PySem.Str × AV)} {σ σ' : List AO} {e : Expr} {y y' : Bool} (h : Tt G c m σ e y σ') (hy : y = y') : Tt G c m σ e y' σ' := hy ▸ h
theorem lp_goals {y : PySem.Str} {vs : List AV} {σ0 : List AO} {m : List (PySem.Str × AV)} (hs : y.cps.toList.length = vs.length) (hok : ∀ ch ∈ y.cps.toList, pl 9 (.str ⟨#[ch]⟩) = true) (hz : vs.length ≤ 900) : ∀ (rest : List AV) (k : Nat) (σ : List AO) (acc : List AV), vs.drop k = rest → GH σ σ0 y vs k acc → acc.length + rest.length ≤ 900 →
    ∃ σ', Lp G (cxG.into gSc (σ0.length + 5) []) m gElt gTg [gIf] (.loc (σ0.length + 3)) (σ0.length + 4) σ σ' ∧ (∃ g, σ' = σ0 ++ g) ∧ σ'[σ0.length + 4]? = some (.list (acc ++ pick y vs k)) ∧ ∃ mb, σ'[σ0.length + 5]? = some (.ns mb)
  | [], k, σ, acc, hd, H, hsz => by
    have hk : vs.length ≤ k := by
      have : (vs.drop k).length = 0 := by rw [hd]; rfl
      rw [List.length_drop] at this; kwd_inv
    have hp : pick y vs k = [] := by
      unfold pick
      rw [List.drop_eq_nil_of_le (by rw [List.length_zip, hs]; kwd_inv)]; rfl
    obtain ⟨mb, hn, _⟩ := H.hn
    refine ⟨_, .done (nd_zip H.hz H.h1 ?_), gr_set (gr_set H.gr (by kwd_inv)) (by kwd_inv), ?_, mb, ?_⟩
    · rw [← Array.getElem?_toList]
      exact List.getElem?_eq_none_iff.mpr (by rw [hs]; exact hk)
    · rw [hp, List.append_nil]
      exact at_set_ne (by kwd_inv) (at_set_ne (by kwd_inv) H.hl)
    · exact at_set_ne (by kwd_inv) (at_set_ne (by kwd_inv) hn)
  | v :: rest, k, σ, acc, hd, H, hsz => by
    have hv : vs[k]? = some v := by rw [← List.head?_drop, hd]; rfl
    have hd' : vs.drop (k + 1) = rest := by rw [← List.tail_drop, hd]; rfl
    have hk : k < vs.length := (List.getElem?_eq_some_iff.mp hv).1
    obtain ⟨ch, hch⟩ : ∃ ch, y.cps[k]? = some ch := ⟨_, by rw [← Array.getElem?_toList]; exact List.getElem?_eq_getElem (hs.symm ▸ hk)⟩
    have hp : pick y vs k = (if ch = 103 then [v] else []) ++ pick y vs (k + 1) := by
      unfold pick
      have e : (y.cps.toList.zip vs)[k]? = some (ch, v) := by
        rw [List.getElem?_zip_eq_some]
        exact ⟨by rw [Array.getElem?_toList]; exact hch, hv⟩
      rw [List.drop_eq_getElem_cons (List.getElem?_eq_some_iff.mp e).1, (List.getElem?_eq_some_iff.mp e).2, List.filterMap_cons]
      split <;> rename_i hq
      · split at hq
        · cases hq
        · rw [if_neg ‹_›]; rfl
      · split at hq
        · cases hq; rw [if_pos ‹_›]; rfl
        · cases hq
    obtain ⟨q0, hE⟩ := gElt_is
    obtain ⟨q1, q2, q3, hT⟩ := gTg_is
    obtain ⟨q4, q5, q6, hI⟩ := gIf_is
    obtain ⟨mb, hn, hq⟩ := H.hn
    have hx1 : (relS gSc (scopeOf cxG)).names.lookup ("letter" : PySem.Str) = some .local := by kernel_rfl!
    have hx2 : (relS gSc (scopeOf cxG)).names.lookup ("part" : PySem.Str) = some .local := by kernel_rfl!
    have n0 : ((σ.set σ0.length (.sit y (k + 1))).set (σ0.length + 1) (.tit vs (k + 1)))[σ0.length + 5]? = some (.ns mb) := at_set_ne (by kwd_inv) (at_set_ne (by kwd_inv) hn)
    have hdr : Dr G (cxG.into gSc (σ0.length + 5) []) m σ gTg (.loc (σ0.length + 3)) m
        ((((σ.set σ0.length (.sit y (k + 1))).set (σ0.length + 1) (.tit vs (k + 1))).set (σ0.length + 5) (.ns (put "letter" (.str ⟨#[ch]⟩) mb))).set (σ0.length + 5) (.ns [(("letter" : PySem.Str), .str ⟨#[ch]⟩), (("part" : PySem.Str), v)])) := by
      rw [hT]
      refine dr_zip H.hz H.h1 H.h2 H.ho hch hv (as_tuple (ass_cons (as_name (sn_blockI hx1 n0 rfl)) (ass_cons (as_name (sn_blockI hx2 (at_set_eq n0) (hq _ _))) ass_nil (by intro _; rfl)) (by intro _; rfl)) (by intro _; rfl) (by intro _; rfl))
    generalize hσ1 : ((((σ.set σ0.length (.sit y (k + 1))).set (σ0.length + 1) (.tit vs (k + 1))).set (σ0.length + 5) (.ns (put "letter" (.str ⟨#[ch]⟩) mb))).set (σ0.length + 5) (.ns [(("letter" : PySem.Str), .str ⟨#[ch]⟩), (("part" : PySem.Str), v)])) = σ1 at hdr
    have N1 : σ1[σ0.length + 5]? = some (.ns [(("letter" : PySem.Str), .str ⟨#[ch]⟩), (("part" : PySem.Str), v)]) := by rw [← hσ1]; exact at_set_eq (at_set_eq n0)
    have H1 : GH σ1 σ0 y vs (k + 1) acc := by
      refine ⟨?_, ?_, ?_, ?_, ?_, ?_, _, N1, fun u w => ?_⟩
      · rw [← hσ1]; exact gr_set (gr_set (gr_set (gr_set H.gr (by kwd_inv)) (by kwd_inv)) (by kwd_inv)) (by kwd_inv)
      · rw [← hσ1]; exact at_set_ne (by kwd_inv) (at_set_ne (by kwd_inv) (at_set_ne (by kwd_inv) (at_set_eq H.h1)))
      · rw [← hσ1]; exact at_set_ne (by kwd_inv) (at_set_ne (by kwd_inv) (at_set_eq (at_set_ne (by kwd_inv) H.h2)))
      · rw [← hσ1]; exact at_set_ne (by kwd_inv) (at_set_ne (by kwd_inv) (at_set_ne (by kwd_inv) (at_set_ne (by kwd_inv) H.ho)))
      · rw [← hσ1]; exact at_set_ne (by kwd_inv) (at_set_ne (by kwd_inv) (at_set_ne (by kwd_inv) (at_set_ne (by kwd_inv) H.hz)))
      · rw [← hσ1]; exact at_set_ne (by kwd_inv) (at_set_ne (by kwd_inv) (at_set_ne (by kwd_inv) (at_set_ne (by kwd_inv) H.hl)))
      · rfl
    have htest : Tt G (cxG.into gSc (σ0.length + 5) []) m σ1 gIf (decide (ch = 103)) σ1 := by
      rw [hI]
      refine tt_eq (tt_cmp (cm_of (v := .bool (PyData.eqv (pyd (.str ⟨#[ch]⟩)) (pyd (.str "g")))) (ev_nm (ev_localI hx1 N1 (v := .str ⟨#[ch]⟩) ?lk (by decide +kernel))) ev_str (op_eqd (rd_val (hok ch (Array.mem_toList_iff.mpr (Array.mem_of_getElem? hch)))) (rd_val (by kernel_rfl!)) rfl)) ?u) ?e
      case lk => kwd_rel
      case u => with_unfolding_all rfl
      case e =>
        by_cases h : ch = 103
        · subst h
          rw [decide_eq_true rfl]
          kernel_rfl!
        · rw [decide_eq_false h]
          show ((⟨#[ch]⟩ : PySem.Str) == ("g" : PySem.Str)) = false
          refine beq_eq_false_iff_ne.mpr fun q => h ?_
          have e : ("g" : PySem.Str) = ⟨#[103]⟩ := by kernel_rfl!
          rw [e] at q
          injection q with q
          simpa using q
    cases ho : decide (ch = 103) with
    | false =>
      obtain ⟨σ', h3, g3, l3, n3⟩ := lp_goals hs hok hz rest (k + 1) σ1 acc hd' H1 (by simp at hsz; kwd_inv)
      refine ⟨σ', .skip hdr (ts_F htest ho) h3, g3, ?_, n3⟩
      rw [l3, hp, if_neg (of_decide_eq_false ho)]; rfl
    | true =>
      have H2 : GH (σ1.set (σ0.length + 4) (.list (acc ++ [v]))) σ0 y vs (k + 1) (acc ++ [v]) :=
        ⟨gr_set H1.gr (by kwd_inv), at_set_ne (by kwd_inv) H1.h1, at_set_ne (by kwd_inv) H1.h2, at_set_ne (by kwd_inv) H1.ho, at_set_ne (by kwd_inv) H1.hz, at_set_eq H1.hl, _, at_set_ne (by kwd_inv) N1, fun u w => rfl⟩
      obtain ⟨σ', h3, g3, l3, n3⟩ := lp_goals hs hok hz rest (k + 1) _ (acc ++ [v]) hd' H2 (by simp at hsz ⊢; kwd_inv)
      refine ⟨σ', .keep hdr (ts_T htest ho) (u := v) ?_ H1.hl (by rw [sizeLine_eq]; kwd_inv) h3, g3, ?_, n3⟩
      · rw [hE]
        refine ev_localI hx2 N1 ?_ (by decide +kernel)
        kwd_rel
      · rw [l3, hp, if_pos (of_decide_eq_true ho), List.append_assoc]
theorem Rw.picked (r : Rw) : pick r.sh r.rest 0 = r.goals := by cases r <;> rfl
theorem cl_goals (r : Rw) : ∃ g', g'[4]? = some (.list r.goals) ∧ Cl G 2 (.ref 114) [r.av] σ (.loc (σ.length + 4)) (σ ++ g') := by
  have hs := cl_shape (G := G) (σ := σ) r
  have hz1 : r.rest.length ≤ 100 := by cases r <;> exact le_lit rfl
  have hz : r.rest.length ≤ 900 := by omega
  have hl : r.sh.cps.toList.length = r.rest.length := by cases r <;> rfl
  have hok : ∀ ch ∈ r.sh.cps.toList, pl 9 (.str ⟨#[ch]⟩) = true := List.all_eq_true.mp (by cases r <;> kernel_rfl!)
  have ha : r.sh.cps.all (· < 128) = true := by cases r <;> kernel_rfl!
  obtain ⟨q7, q8, hb⟩ := gBody_is
  have e0 : (σ ++ [AO.sit r.sh 0, .tit r.rest 0, .own, .zip (.tup [.loc σ.length, .loc (σ.length + 1)]) (σ.length + 2)] ++ [.list []] ++ [.ns []]) = σ ++ [AO.sit r.sh 0, .tit r.rest 0, .own, .zip (.tup [.loc σ.length, .loc (σ.length + 1)]) (σ.length + 2), .list [], .ns []] := by simp
  have at' : ∀ {i : Nat} {x : AO}, [AO.sit r.sh 0, .tit r.rest 0, .own, .zip (.tup [.loc σ.length, .loc (σ.length + 1)]) (σ.length + 2), .list [], .ns []][i]? = some x → (σ ++ [AO.sit r.sh 0, .tit r.rest 0, .own, .zip (.tup [.loc σ.length, .loc (σ.length + 1)]) (σ.length + 2), .list [], .ns []])[σ.length + i]? = some x := fun {i x} h => by
    rw [List.getElem?_append_right (Nat.le_add_right _ _), Nat.add_sub_cancel_left]; exact h
  have H : GH (σ ++ [AO.sit r.sh 0, .tit r.rest 0, .own, .zip (.tup [.loc σ.length, .loc (σ.length + 1)]) (σ.length + 2)] ++ [.list []] ++ [.ns []]) σ r.sh r.rest 0 [] := by
    rw [e0]
    exact ⟨⟨_, rfl⟩, at' (i := 0) rfl, at' (i := 1) rfl, at' (i := 2) rfl, at' (i := 3) rfl, at' (i := 4) rfl, [], at' (i := 5) rfl, fun _ _ => rfl⟩
  obtain ⟨σ', h3, ⟨g, hg⟩, hl4, mb, hn⟩ := lp_goals (G := G) (m := [("row", r.av)]) hl hok hz r.rest 0 _ [] rfl H (by simpa using hz)
  have hit : Ev G cxG [("row", r.av)] σ gIter (.loc (σ.length + 3)) (σ ++ [AO.sit r.sh 0, .tit r.rest 0, .own, .zip (.tup [.loc σ.length, .loc (σ.length + 1)]) (σ.length + 2)]) := by
    obtain ⟨p1, p2, p3, p4, p5, p6, p7, p8, p9, hi⟩ := gIter_is
    rw [hi, r.av_eq]
    rw [r.av_eq] at hs
    refine' ev_eq ?t ?e1 ?e2
    case t =>
      refine' ev_call ?u1 ?u2 ?u3 (cl_zip rfl ha) ?u4 ?u5
      case u1 => kcf_m
      case u2 =>
        refine' evs_cons ?a1 (evs_cons (ev_sl_from ?a2 (by decide) (by decide) ?a3 ?a4 (by intro _ _; rfl)) evs_nil (by intro _; rfl)) (by intro _; rfl)
        case a1 => kpt_turns
        case a2 => kpt_turns
        case a3 => simp
        case a4 => rw [List.length_cons]; omega
      case u3 => kcf_all
      case u4 => exact Nat.zero_le _
      case u5 => intro _; rfl
    case e1 => rfl
    case e2 => simp only [List.append_assoc, List.cons_append, List.nil_append]; rfl
  have hev : Ev G cxG [("row", r.av)] σ (.ListComp gElt [⟨gTg, gIter, [gIf], 0⟩] gSc q7) (.loc (σ.length + 4)) (σ'.set (σ.length + 5) .dead) := by
    refine ev_comp (n := σ.length + 4) (cs := []) ?_ ?_ ?_ ?_ hit (pi_zip (w := .tup [.loc σ.length, .loc (σ.length + 1)]) (to := σ.length + 2) (by rw [List.getElem?_append_right (Nat.le_add_right _ _), Nat.add_sub_cancel_left]; rfl)) (by simp) ?_ h3 hn (by intro _ _; rfl)
    · kernel_rfl!
    · kernel_rfl!
    · kernel_rfl!
    · kernel_rfl!
    · exact pi_zip H.hz
  have h : Sx G cxG [("row", r.av)] σ (dBody (atTop 11)) (.ret (.loc (σ.length + 4))) [("row", r.av)] (σ ++ g.set 5 .dead) := by
    rw [hb]
    have e1 : σ'.set (σ.length + 5) .dead = σ ++ g.set 5 .dead := by rw [gar_set hg (Nat.le_add_right _ _), Nat.add_sub_cancel_left]
    exact e1 ▸ sx_stop (s_ret hev) (by intro q; cases q)
  refine ⟨g.set 5 .dead, ?_, ?_⟩
  · have : σ'[σ.length + 4]? = g[4]? := by rw [hg, List.getElem?_append_right (Nat.le_add_right _ _), Nat.add_sub_cancel_left]
    rw [List.getElem?_set_ne (ne_lit rfl), ← this, hl4, r.picked]; rfl
  · refine cl_def (xs := ["row"]) ho_goals_of ?_ ?_ ?_ ?_ h ?_ ?_ ?_ ?_ ?_ <;> kqd_all
end SC7b
section SC8
section
variable {G : Gl} {c : Cx} {m m' : List (PySem.Str × AV)} {ss : List Stmt} {fl fl' : AF} {σ σ₀ σ₁ g : List AO}
theorem sx_gar (h : Sx G c m σ ss fl m' σ₁) (e1 : fl = fl') (e2 : σ₁ = σ₀ ++ g) : ∃ m' g, Sx G c m σ ss fl' m' (σ₀ ++ g) := by
  subst e1 e2; exact ⟨_, _, h⟩
theorem sxE_gar (h : SxE G c m σ ss true m' σ₁) (e2 : σ₁ = σ₀ ++ g) : ∃ m' g, SxE G c m σ ss true m' (σ₀ ++ g) := by
  subst e2; exact ⟨_, _, h⟩
end
theorem cl_shape_goto {G : Gl} {σ : List AO} {l : Int} : Cl G 1 (.ref 109) [.tup [.str "goto", .int l]] σ (.str ⟨#[103]⟩) σ := cl_shape (.goto l)
theorem cl_shape_unless {G : Gl} {σ : List AO} {s l : Int} : Cl G 1 (.ref 109) [.tup [.str "unless", .int s, .int l]] σ (.str ⟨#[115, 103]⟩) σ := cl_shape (.unless s l)


local macro_rules | `(tactic| ktu_offI) => `(tactic|
  first
    | with_reducible refine' cl_shape_goto
      
    | with_reducible refine' cl_shape_unless
      )

noncomputable abbrev cxT (k n : Nat) : Cx := ⟨k, "turned_row", dScope (atTop 12), 119, .ref 118, [("register", n)], none⟩
variable {G : Gl} {σ : List AO}
theorem b_turn_goto {il jl im iw d r ll y : Nat} {ar n l i : Int} {ls : List AV} (hil : σ[il]? = some (.lam jl)) (hjl : σ[jl]? = some (.code lamQual)) (him : σ[im]? = some (.meth 250 iw))
    (hw : σ[iw]? = some (.inst 260 d)) (hd : σ[d]? = some (wO ar n r ll y)) (hl : σ[ll]? = some (.list ls)) (hz : ls.length < 1000000) (k0 : 0 ≤ l) (hk : ls[l.toNat]? = some (.int i)) :
    ∃ m' g', Sx G (cxT 1 σ.length) [("row", .tup [.str "goto", .int l]), ("goal", .loc im)] (σ ++ [.cell (some (.loc il))]) (dBody (atTop 12)) (.ret (.tup [.str "goto", .int i])) m' (σ ++ g') := by
  have lt0 := (List.getElem?_eq_some_iff.mp hil).1
  have lt1 := (List.getElem?_eq_some_iff.mp hjl).1
  have lt2 := (List.getElem?_eq_some_iff.mp him).1
  have lt3 := (List.getElem?_eq_some_iff.mp hw).1
  have lt4 := (List.getElem?_eq_some_iff.mp hd).1
  have lt5 := (List.getElem?_eq_some_iff.mp hl).1
  apply sx_gar
  · refine' sx_next ?u12a ?u12b
    case u12a =>
      kst_p
    case' u12b => skip
    refine' sx_next ?u11a ?u11b
    case u11a =>
      refine' s_for ?u10a ?u10b ?u10c ?u10d
      case u10a => kpt_turns
      case u10b => exact pi_zip (by krn_off)
      case u10c =>
        refine' Fo.turn ?u9a ?u9b ?u9c
        case u9a => kd_adr
        case u9b =>
          refine' sx_next ?u8a ?u8b
          case u8a =>
            refine' s_if_F ?u7a ?u7b ?u7c
            case u7a => kln_le
            case u7b => kernel_rfl!
            case u7c =>
              refine' sx_next ?u6a ?u6b
              case u6a =>
                refine' s_if_F ?u5a ?u5b ?u5c
                case u5a => kln_le
                case u5b => kernel_rfl!
                case u5c =>
                  refine' sx_next ?u4a ?u4b
                  case u4a =>
                    refine' s_expr ?u3a ?u3b ?u3c
                    case u3a =>
                      refine' ev_callm ?u31 ?u32 ?u33 ?u34 ?u35 ?u36 ?u37 ?u38 ?u39 ?u310
                      case u31 => kpt_turns
                      case u32 => kbt_split
                      case u33 =>
                        refine' evs_cons ?u3x ?u3y ?u3z
                        case u3x =>
                          refine' ev_if_T ?u2a ?u2b ?u2c
                          case u2a => kln_le
                          case u2b => kernel_rfl!
                          case u2c =>
                            refine' ev_callV ?u1a ?u1b ?u1c ?u1d ?u1e
                            case u1a => kcf_m
                            case u1b => kc_close
                            case u1c =>
                              refine clV_meth (i := im) (j := iw) (g := 250) ?_ (by kernel_rfl!) (cd_goal_ok (d := d) (ar := ar) (n := n) (r := r) (l := ll) (y := y) (ls := ls) ?_ ?_ ?_ hz k0 hk) <;> krn_off
                            case u1d => exact Nat.le_of_ble_eq_true (by kernel_rfl!)
                            case u1e => intro _; rfl
                        case u3y => exact evs_nil
                        case u3z => intro _; rfl
                      case u34 => exact kp_B
                      case u35 => kaf_pre
                      case u36 => exact Nat.zero_le _
                      case u37 => intro _; rfl
                      case u38 => rfl
                      case u39 => intro _; rfl
                      case u310 => rfl
                    case u3b => rfl
                    case u3c => intro _; rfl
                  case u4b => exact sx_nil
              case u6b => exact sx_nil
          case u8b => exact sx_nil
        case u9c =>
          exact Fo.done (by kd_facts)
      case u10d => intro _ _; rfl
    case' u11b => skip
    kt_eqs
  · rfl
  · ksw_less
theorem cl_turn_goto {il jl im iw d r ll y : Nat} {ar n l i : Int} {ls : List AV} (hil : σ[il]? = some (.lam jl)) (hjl : σ[jl]? = some (.code lamQual)) (him : σ[im]? = some (.meth 250 iw))
    (hw : σ[iw]? = some (.inst 260 d)) (hd : σ[d]? = some (wO ar n r ll y)) (hl : σ[ll]? = some (.list ls)) (hz : ls.length < 1000000) (k0 : 0 ≤ l) (hk : ls[l.toNat]? = some (.int i)) :
    ∃ g', Cl G 2 (.ref 119) [.tup [.str "goto", .int l], .loc il, .loc im] σ (.tup [.str "goto", .int i]) (σ ++ g') := by
  obtain ⟨m', g', h⟩ := b_turn_goto (G := G) hil hjl him hw hd hl hz k0 hk
  refine ⟨g', ?_⟩
  refine cl_defC (xs := ["row", "register", "goal"]) (cs := [("register", σ.length)]) (ca := [.cell (some (.loc il))]) (ml := [("row", .tup [.str "goto", .int l]), ("goal", .loc im)]) ho_turned_row ?_ ?_ ?_ ?_ ?_ ?_ rfl ?_ ?_ ?_ ?_ h ?_ ?_ ?_ ?_ <;> kqd_all
theorem b_turn_unless {il jl im iw d r ll y : Nat} {ar n s l i : Int} {ls : List AV} (hil : σ[il]? = some (.lam jl)) (hjl : σ[jl]? = some (.code lamQual)) (him : σ[im]? = some (.meth 250 iw))
    (hw : σ[iw]? = some (.inst 260 d)) (hd : σ[d]? = some (wO ar n r ll y)) (hl : σ[ll]? = some (.list ls)) (hz : ls.length < 1000000) (k0 : 0 ≤ l) (hk : ls[l.toNat]? = some (.int i)) :
    ∃ m' g', Sx G (cxT 1 σ.length) [("row", .tup [.str "unless", .int s, .int l]), ("goal", .loc im)] (σ ++ [.cell (some (.loc il))]) (dBody (atTop 12)) (.ret (.tup [.str "unless", .int s, .int i])) m' (σ ++ g') := by
  have lt0 := (List.getElem?_eq_some_iff.mp hil).1
  have lt1 := (List.getElem?_eq_some_iff.mp hjl).1
  have lt2 := (List.getElem?_eq_some_iff.mp him).1
  have lt3 := (List.getElem?_eq_some_iff.mp hw).1
  have lt4 := (List.getElem?_eq_some_iff.mp hd).1
  have lt5 := (List.getElem?_eq_some_iff.mp hl).1
  apply sx_gar
  · refine' sx_next ?u30a ?u30b
    case u30a =>
      kst_p
    case' u30b => skip
    refine' sx_next ?u29a ?u29b
    case u29a =>
      refine' s_for ?u28a ?u28b ?u28c ?u28d
      case u28a => kpt_turns
      case u28b => exact pi_zip (by krn_off)
      case u28c =>
        refine' Fo.turn ?u26a ?u26b ?u26c
        case u26a => kd_adr
        case u26b =>
          refine' sx_next ?u17a ?u17b
          case u17a =>
            refine' s_if_T ?u16a ?u16b ?u16c
            case u16a => kln_le
            case u16b => kernel_rfl!
            case u16c =>
              refine' sx_next ?u15a ?u15b
              case u15a =>
                refine' s_expr ?u14a ?u14b ?u14c
                case u14a =>
                  refine' ev_callm ?u141 ?u142 ?u143 ?u144 ?u145 ?u146 ?u147 ?u148 ?u149 ?u1410
                  case u141 => kpt_turns
                  case u142 => kbt_split
                  case u143 =>
                    refine' evs_cons ?u14x ?u14y ?u14z
                    case u14x =>
                      refine' ev_callV ?u13a ?u13b ?u13c ?u13d ?u13e
                      case u13a => kcf_m
                      case u13b => kc_close
                      case u13c =>
                        refine clV_lam (i := il) (j := jl) ?_ ?_ <;> krn_off
                      case u13d => exact Nat.le_of_ble_eq_true (by kernel_rfl!)
                      case u13e => intro _; rfl
                    case u14y => exact evs_nil
                    case u14z => intro _; rfl
                  case u144 => exact kp_B
                  case u145 => kaf_pre
                  case u146 => exact Nat.zero_le _
                  case u147 => intro _; rfl
                  case u148 => rfl
                  case u149 => intro _; rfl
                  case u1410 => rfl
                case u14b => rfl
                case u14c => intro _; rfl
              case u15b => exact sx_nil
          case u17b => exact sx_nil
        case u26c =>
          refine' Fo.turn ?u27a ?u27b ?u27c
          case u27a => kd_adr
          case u27b =>
            refine' sx_next ?u25a ?u25b
            case u25a =>
              refine' s_if_F ?u24a ?u24b ?u24c
              case u24a => kln_le
              case u24b => kernel_rfl!
              case u24c =>
                refine' sx_next ?u23a ?u23b
                case u23a =>
                  refine' s_if_F ?u22a ?u22b ?u22c
                  case u22a => kln_le
                  case u22b => kernel_rfl!
                  case u22c =>
                    refine' sx_next ?u21a ?u21b
                    case u21a =>
                      refine' s_expr ?u20a ?u20b ?u20c
                      case u20a =>
                        refine' ev_callm ?u201 ?u202 ?u203 ?u204 ?u205 ?u206 ?u207 ?u208 ?u209 ?u2010
                        case u201 => kpt_turns
                        case u202 => kbt_split
                        case u203 =>
                          refine' evs_cons ?u20x ?u20y ?u20z
                          case u20x =>
                            refine' ev_if_T ?u19a ?u19b ?u19c
                            case u19a => kln_le
                            case u19b => kernel_rfl!
                            case u19c =>
                              refine' ev_callV ?u18a ?u18b ?u18c ?u18d ?u18e
                              case u18a => kcf_m
                              case u18b => kc_close
                              case u18c =>
                                refine clV_meth (i := im) (j := iw) (g := 250) ?_ (by kernel_rfl!) (cd_goal_ok (d := d) (ar := ar) (n := n) (r := r) (l := ll) (y := y) (ls := ls) ?_ ?_ ?_ hz k0 hk) <;> krn_off
                              case u18d => exact Nat.le_of_ble_eq_true (by kernel_rfl!)
                              case u18e => intro _; rfl
                          case u20y => exact evs_nil
                          case u20z => intro _; rfl
                        case u204 => exact kp_B
                        case u205 => kaf_pre
                        case u206 => exact Nat.zero_le _
                        case u207 => intro _; rfl
                        case u208 => rfl
                        case u209 => intro _; rfl
                        case u2010 => rfl
                      case u20b => rfl
                      case u20c => intro _; rfl
                    case u21b => exact sx_nil
                case u23b => exact sx_nil
            case u25b => exact sx_nil
          case u27c =>
            exact Fo.done (by kd_facts)
      case u28d => intro _ _; rfl
    case' u29b => skip
    kt_eqs
  · rfl
  · ksw_less
theorem cl_turn_unless {il jl im iw d r ll y : Nat} {ar n s l i : Int} {ls : List AV} (hil : σ[il]? = some (.lam jl)) (hjl : σ[jl]? = some (.code lamQual)) (him : σ[im]? = some (.meth 250 iw))
    (hw : σ[iw]? = some (.inst 260 d)) (hd : σ[d]? = some (wO ar n r ll y)) (hl : σ[ll]? = some (.list ls)) (hz : ls.length < 1000000) (k0 : 0 ≤ l) (hk : ls[l.toNat]? = some (.int i)) :
    ∃ g', Cl G 2 (.ref 119) [.tup [.str "unless", .int s, .int l], .loc il, .loc im] σ (.tup [.str "unless", .int s, .int i]) (σ ++ g') := by
  obtain ⟨m', g', h⟩ := b_turn_unless (G := G) (s := s) hil hjl him hw hd hl hz k0 hk
  refine ⟨g', ?_⟩
  refine cl_defC (xs := ["row", "register", "goal"]) (cs := [("register", σ.length)]) (ca := [.cell (some (.loc il))]) (ml := [("row", .tup [.str "unless", .int s, .int l]), ("goal", .loc im)]) ho_turned_row ?_ ?_ ?_ ?_ ?_ ?_ rfl ?_ ?_ ?_ ?_ h ?_ ?_ ?_ ?_ <;> kqd_all
theorem b_turnE_goto {il jl im iw d r ll y : Nat} {ar n l : Int} {ls : List AV} (hil : σ[il]? = some (.lam jl)) (hjl : σ[jl]? = some (.code lamQual)) (him : σ[im]? = some (.meth 250 iw))
    (hw : σ[iw]? = some (.inst 260 d)) (hd : σ[d]? = some (wO ar n r ll y)) (hl : σ[ll]? = some (.list ls)) (hz : ls.length < 1000000) (k0 : 0 ≤ l) (hk : ls[l.toNat]? = some .none) :
    ∃ m' g', SxE G (cxT 3 σ.length) [("row", .tup [.str "goto", .int l]), ("goal", .loc im)] (σ ++ [.cell (some (.loc il))]) (dBody (atTop 12)) true m' (σ ++ g') := by
  have lt0 := (List.getElem?_eq_some_iff.mp hil).1
  have lt1 := (List.getElem?_eq_some_iff.mp hjl).1
  have lt2 := (List.getElem?_eq_some_iff.mp him).1
  have lt3 := (List.getElem?_eq_some_iff.mp hw).1
  have lt4 := (List.getElem?_eq_some_iff.mp hd).1
  have lt5 := (List.getElem?_eq_some_iff.mp hl).1
  apply sxE_gar
  · refine' sxE_next ?u31a ?u31b
    case u31a => kst_p
    case' u31b => skip
    apply sxE_head
    refine' s_forE ?u36a ?u36b ?u36c ?u36d
    case u36a => kpt_turns
    case u36b => exact pi_zip (by krn_off)
    case u36c =>
      refine' FoE.stop ?u35a ?u35b
      case u35a => kd_adr
      case u35b =>
        apply sxE_head
        refine' s_ifE_F ?u34a ?u34b ?u34c
        case u34a => kln_le
        case u34b => kernel_rfl!
        case u34c =>
          apply sxE_head
          refine' s_ifE_F ?u33a ?u33b ?u33c
          case u33a => kln_le
          case u33b => kernel_rfl!
          case u33c =>
            apply sxE_head
            refine' s_exprE ?u32k ?u32l ?u32m
            case u32l => rfl
            case u32m => intro _; rfl
            case u32k =>
              refine' evE_callm_args ?u321 ?u322 ?u323 ?u324 ?u325 ?u326 ?u327 ?u328
              case u321 => kpt_turns
              case u322 => kbt_split
              case u323 =>
                refine' evsE_head ?u32x ?u32y
                case u32x =>
                  refine' evE_if_t ?u32a ?u32b ?u32c
                  case u32a => kln_le
                  case u32b => kernel_rfl!
                  case u32c =>
                    refine' evE_callV ?u32p ?u32q ?u32r ?u32s ?u32t
                    case u32p => kcf_m
                    case u32q => kc_close
                    case u32r => refine clV_methE (i := im) (j := iw) (g := 250) ?_ (by kernel_rfl!) (cd_goal_bad (d := d) (ar := ar) (n := n) (r := r) (l := ll) (y := y) (ls := ls) ?_ ?_ ?_ hz k0 hk) <;> krn_off
                    case u32s => exact Nat.le_of_ble_eq_true (by kernel_rfl!)
                    case u32t => intro _; rfl
                case u32y => intro _; rfl
              case u324 => exact kp_B
              case u325 => intro _; rfl
              case u326 => rfl
              case u327 => intro _; rfl
              case u328 => rfl
    case u36d => intro _ _; rfl
  · ksw_less
theorem cl_turnE_goto {il jl im iw d r ll y : Nat} {ar n l : Int} {ls : List AV} (hil : σ[il]? = some (.lam jl)) (hjl : σ[jl]? = some (.code lamQual)) (him : σ[im]? = some (.meth 250 iw))
    (hw : σ[iw]? = some (.inst 260 d)) (hd : σ[d]? = some (wO ar n r ll y)) (hl : σ[ll]? = some (.list ls)) (hz : ls.length < 1000000) (k0 : 0 ≤ l) (hk : ls[l.toNat]? = some .none) :
    ∃ g', ClE G 4 (.ref 119) [.tup [.str "goto", .int l], .loc il, .loc im] σ (σ ++ g') := by
  obtain ⟨m', g', h⟩ := b_turnE_goto (G := G) hil hjl him hw hd hl hz k0 hk
  refine ⟨g', ?_⟩
  refine cl_defCE (xs := ["row", "register", "goal"]) (cs := [("register", σ.length)]) (ca := [.cell (some (.loc il))]) (ml := [("row", .tup [.str "goto", .int l]), ("goal", .loc im)]) ho_turned_row ?_ ?_ ?_ ?_ ?_ ?_ rfl ?_ ?_ ?_ ?_ h ?_ ?_ ?_ <;> kqd_all
theorem b_turnE_unless {il jl im iw d r ll y : Nat} {ar n s l : Int} {ls : List AV} (hil : σ[il]? = some (.lam jl)) (hjl : σ[jl]? = some (.code lamQual)) (him : σ[im]? = some (.meth 250 iw))
    (hw : σ[iw]? = some (.inst 260 d)) (hd : σ[d]? = some (wO ar n r ll y)) (hl : σ[ll]? = some (.list ls)) (hz : ls.length < 1000000) (k0 : 0 ≤ l) (hk : ls[l.toNat]? = some .none) :
    ∃ m' g', SxE G (cxT 3 σ.length) [("row", .tup [.str "unless", .int s, .int l]), ("goal", .loc im)] (σ ++ [.cell (some (.loc il))]) (dBody (atTop 12)) true m' (σ ++ g') := by
  have lt0 := (List.getElem?_eq_some_iff.mp hil).1
  have lt1 := (List.getElem?_eq_some_iff.mp hjl).1
  have lt2 := (List.getElem?_eq_some_iff.mp him).1
  have lt3 := (List.getElem?_eq_some_iff.mp hw).1
  have lt4 := (List.getElem?_eq_some_iff.mp hd).1
  have lt5 := (List.getElem?_eq_some_iff.mp hl).1
  apply sxE_gar
  · refine' sxE_next ?u42a ?u42b
    case u42a => kst_p
    case' u42b => skip
    apply sxE_head
    refine' s_forE ?u48a ?u48b ?u48c ?u48d
    case u48a => kpt_turns
    case u48b => exact pi_zip (by krn_off)
    case u48c =>
      refine' FoE.turn ?u46a ?u46b ?u46c
      case u46a => kd_adr
      case u46b =>
        refine' sx_next ?u41a ?u41b
        case u41a =>
          refine' s_if_T ?u40a ?u40b ?u40c
          case u40a => kln_le
          case u40b => kernel_rfl!
          case u40c =>
            refine' sx_next ?u39a ?u39b
            case u39a =>
              refine' s_expr ?u38a ?u38b ?u38c
              case u38a =>
                refine' ev_callm ?u381 ?u382 ?u383 ?u384 ?u385 ?u386 ?u387 ?u388 ?u389 ?u3810
                case u381 => kpt_turns
                case u382 => kbt_split
                case u383 =>
                  refine' evs_cons ?u38x ?u38y ?u38z
                  case u38x =>
                    refine' ev_callV ?u37a ?u37b ?u37c ?u37d ?u37e
                    case u37a => kcf_m
                    case u37b => kc_close
                    case u37c =>
                      refine clV_lam (i := il) (j := jl) ?_ ?_ <;> krn_off
                    case u37d => exact Nat.le_of_ble_eq_true (by kernel_rfl!)
                    case u37e => intro _; rfl
                  case u38y => exact evs_nil
                  case u38z => intro _; rfl
                case u384 => exact kp_B
                case u385 => kaf_pre
                case u386 => exact Nat.zero_le _
                case u387 => intro _; rfl
                case u388 => rfl
                case u389 => intro _; rfl
                case u3810 => rfl
              case u38b => rfl
              case u38c => intro _; rfl
            case u39b => exact sx_nil
        case u41b => exact sx_nil
      case u46c =>
        refine' FoE.stop ?u47a ?u47b
        case u47a => kd_adr
        case u47b =>
          apply sxE_head
          refine' s_ifE_F ?u45a ?u45b ?u45c
          case u45a => kln_le
          case u45b => kernel_rfl!
          case u45c =>
            apply sxE_head
            refine' s_ifE_F ?u44a ?u44b ?u44c
            case u44a => kln_le
            case u44b => kernel_rfl!
            case u44c =>
              apply sxE_head
              refine' s_exprE ?u43k ?u43l ?u43m
              case u43l => rfl
              case u43m => intro _; rfl
              case u43k =>
                refine' evE_callm_args ?u431 ?u432 ?u433 ?u434 ?u435 ?u436 ?u437 ?u438
                case u431 => kpt_turns
                case u432 => kbt_split
                case u433 =>
                  refine' evsE_head ?u43x ?u43y
                  case u43x =>
                    refine' evE_if_t ?u43a ?u43b ?u43c
                    case u43a => kln_le
                    case u43b => kernel_rfl!
                    case u43c =>
                      refine' evE_callV ?u43p ?u43q ?u43r ?u43s ?u43t
                      case u43p => kcf_m
                      case u43q => kc_close
                      case u43r => refine clV_methE (i := im) (j := iw) (g := 250) ?_ (by kernel_rfl!) (cd_goal_bad (d := d) (ar := ar) (n := n) (r := r) (l := ll) (y := y) (ls := ls) ?_ ?_ ?_ hz k0 hk) <;> krn_off
                      case u43s => exact Nat.le_of_ble_eq_true (by kernel_rfl!)
                      case u43t => intro _; rfl
                  case u43y => intro _; rfl
                case u434 => exact kp_B
                case u435 => intro _; rfl
                case u436 => rfl
                case u437 => intro _; rfl
                case u438 => rfl
    case u48d => intro _ _; rfl
  · ksw_less
theorem cl_turnE_unless {il jl im iw d r ll y : Nat} {ar n s l : Int} {ls : List AV} (hil : σ[il]? = some (.lam jl)) (hjl : σ[jl]? = some (.code lamQual)) (him : σ[im]? = some (.meth 250 iw))
    (hw : σ[iw]? = some (.inst 260 d)) (hd : σ[d]? = some (wO ar n r ll y)) (hl : σ[ll]? = some (.list ls)) (hz : ls.length < 1000000) (k0 : 0 ≤ l) (hk : ls[l.toNat]? = some .none) :
    ∃ g', ClE G 4 (.ref 119) [.tup [.str "unless", .int s, .int l], .loc il, .loc im] σ (σ ++ g') := by
  obtain ⟨m', g', h⟩ := b_turnE_unless (G := G) (s := s) hil hjl him hw hd hl hz k0 hk
  refine ⟨g', ?_⟩
  refine cl_defCE (xs := ["row", "register", "goal"]) (cs := [("register", σ.length)]) (ca := [.cell (some (.loc il))]) (ml := [("row", .tup [.str "unless", .int s, .int l]), ("goal", .loc im)]) ho_turned_row ?_ ?_ ?_ ?_ ?_ ?_ rfl ?_ ?_ ?_ ?_ h ?_ ?_ ?_ <;> kqd_all
end SC8
section SC10
/-! the comprehension of Writer.code -/
noncomputable def kStmt : Stmt := (dBody (inClass 15 12)).getD 1 noStmt
noncomputable def kComp : Expr := asgE kStmt
noncomputable def kElt : Expr := lcE kComp
noncomputable def kScope : Scope := lcS kComp
noncomputable def kTg : Expr := (lcG kComp).target
theorem kElt_is : ∃ p0 p1 p2 p3 p4 p5 p6 p7 p8 p9, kElt = .IfExp (.Call (.Name "goals_of" p1) [.Name "row" p2] [] p3) (.Call (.Name "turned_row" p4) [.Name "row" p5, .Lambda lamPars lamBody lamScope lamPos, .Attribute (.Name "self" p6) "goal" p7] [] p8) (.Name "row" p9) p0 := ⟨_, _, _, _, _, _, _, _, _, _, rfl⟩
theorem kTg_is : ∃ p, kTg = .Name "row" p := ⟨_, rfl⟩
noncomputable abbrev cxK (ci : Nat) : Cx := ⟨4, "Writer.code", dScope (inClass 15 12), 257, .ref 256, [("self", ci)], none⟩
/-- the code table's cell is in order -/
noncomputable def Tab (σ : List AO) : Prop := ∃ t, σ[0]? = some (.tab t) ∧ ∀ j, t = some j → σ[j]? = some (.code lamQual)
theorem Tab.app {σ g : List AO} (h : Tab σ) : Tab (σ ++ g) := by
  obtain ⟨t, h0, h1⟩ := h
  refine ⟨t, ?_, fun j hj => ?_⟩
  · rw [List.getElem?_append_left (List.getElem?_eq_some_iff.mp h0).1]; exact h0
  · rw [List.getElem?_append_left (List.getElem?_eq_some_iff.mp (h1 j hj)).1]; exact h1 j hj
theorem Tab.set {σ : List AO} {i : Nat} {x y : AO} (h : Tab σ) (hi : σ[i]? = some y) (h0 : ∀ t, y ≠ .tab t) (hc : y ≠ .code lamQual) : Tab (σ.set i x) := by
  obtain ⟨t, a, b⟩ := h
  refine ⟨t, at_set_ne (fun q => ?_) a, fun j hj => at_set_ne (fun q => ?_) (b j hj)⟩
  · rw [q, a] at hi; exact h0 t (Option.some.inj hi).symm
  · rw [q, b j hj] at hi; exact hc (Option.some.inj hi).symm
/-- nothing old but the table's cell has changed -/
noncomputable def Kpt (σ σ' : List AO) : Prop := ∀ (i : Nat) (x : AO), i ≠ 0 → σ[i]? = some x → σ'[i]? = some x
theorem Kpt.trans {a b c : List AO} (h : Kpt a b) (h' : Kpt b c) : Kpt a c := fun i x hi e => h' i x hi (h i x hi e)
theorem Kpt.app {σ g : List AO} : Kpt σ (σ ++ g) := fun i x hi e => by rw [List.getElem?_append_left (List.getElem?_eq_some_iff.mp e).1]; exact e
section
variable {G : Gl} {c : Cx} {m : List (PySem.Str × AV)} {σ : List AO}
theorem ev_lam (hb : ∃ b, c.blk = some b) (hcc : c.ccd = .ref 256) (hcn : c.cn = "Writer.code") (hσ : Tab σ) :
    ∃ il jl σ', Ev G c m σ (.Lambda lamPars lamBody lamScope lamPos) (.loc il) σ' ∧ σ'[il]? = some (.lam jl) ∧ σ'[jl]? = some (.code lamQual) ∧ Tab σ' ∧ Kpt σ σ' ∧ σ.length ≤ il ∧ il < σ'.length := by
  obtain ⟨t, h0, h1⟩ := hσ
  cases t with
  | none =>
    have hz := (List.getElem?_eq_some_iff.mp h0).1
    have hcode : (((σ ++ [AO.code lamQual]).set 0 (.tab (some σ.length))) ++ [.lam σ.length])[σ.length]? = some (.code lamQual) := at_old (at_set_ne (by kwd_inv) (at_push rfl))
    refine ⟨σ.length + 1, σ.length, _, ev_lam0 hb hcc hcn h0 rfl, at_push (by simp), hcode, ⟨some σ.length, at_old (at_set_eq (at_old h0)), fun j hj => by cases hj; exact hcode⟩, fun i x hi e => at_old (at_set_ne (Ne.symm hi) (at_old e)), by omega, by simp⟩
  | some j =>
    refine ⟨σ.length, j, _, ev_lam1 hb hcc hcn h0 rfl, at_push rfl, at_old (h1 j rfl), Tab.app ⟨some j, h0, h1⟩, Kpt.app, Nat.le_refl _, by simp⟩
end
noncomputable def lbA (lbs : List (Option Int)) (l : Int) : AV := lbv ((lbs[l.toNat]?).getD none)
noncomputable def Rw.turn (lbs : List (Option Int)) : Rw → AV
  | .goto l => .tup [.str "goto", lbA lbs l] | .unless s l => .tup [.str "unless", .int s, lbA lbs l] | r => r.av
/-- the label that a row goes to stands somewhere -/
noncomputable def Rw.ok (lbs : List (Option Int)) : Rw → Bool
  | .goto l => ((lbs[l.toNat]?).getD none).isSome | .unless _ l => ((lbs[l.toNat]?).getD none).isSome | _ => true
noncomputable def Rw.wf (lbs : List (Option Int)) : Rw → Prop
  | .goto l => 0 ≤ l ∧ l < (lbs.length : Int) | .unless _ l => 0 ≤ l ∧ l < (lbs.length : Int) | _ => True
theorem lb_some {lbs : List (Option Int)} {l : Int} (h : ((lbs[l.toNat]?).getD none).isSome = true) : ∃ i, lbA lbs l = .int i ∧ (lbs.map lbv)[l.toNat]? = some (.int i) := by
  obtain ⟨i, hi⟩ := Option.isSome_iff_exists.mp h
  refine ⟨i, by unfold lbA; rw [hi]; rfl, ?_⟩
  rw [List.getElem?_map]
  cases hq : lbs[l.toNat]? with
  | none => rw [hq] at hi; simp at hi
  | some o => rw [hq] at hi; simp at hi; simp [hi, lbv]
theorem lb_none {lbs : List (Option Int)} {l : Int} (h : ((lbs[l.toNat]?).getD none).isSome = false) (h0 : 0 ≤ l) (h1 : l < (lbs.length : Int)) : (lbs.map lbv)[l.toNat]? = some .none := by
  rw [List.getElem?_map]
  cases hq : lbs[l.toNat]? with
  | none => rw [List.getElem?_eq_none_iff] at hq; omega
  | some o => rw [hq] at h; simp at h; simp [h, lbv]
section
variable {G : Gl} {m : List (PySem.Str × AV)} {σ : List AO} {ci l : Nat} {ar n : Int} {lbs : List (Option Int)}
/-- what the element needs -/
structure Ek (σ : List AO) (ci l : Nat) (r : Rw) (ar n : Int) (lbs : List (Option Int)) : Prop where
  tab : Tab σ
  w3 : σ[3]? = some (wO ar n 5 6 7)
  w4 : σ[4]? = some (.inst 260 3)
  w6 : σ[6]? = some (.list (lbs.map lbv))
  cell : σ[ci]? = some (.cell (some (.loc 4)))
  ci0 : ci ≠ 0
  l0 : l ≠ 0
  ns : σ[l]? = some (.ns [("row", r.av)])
theorem Ek.on {σ' : List AO} {r : Rw} (e : Ek σ ci l r ar n lbs) (ht : Tab σ') (hk : Kpt σ σ') : Ek σ' ci l r ar n lbs :=
  ⟨ht, hk _ _ (by decide) e.w3, hk _ _ (by decide) e.w4, hk _ _ (by decide) e.w6, hk _ _ e.ci0 e.cell, e.ci0, e.l0, hk _ _ e.l0 e.ns⟩
theorem ev_row {r : Rw} {p : Pos} (hns : σ[l]? = some (.ns [("row", r.av)])) : Ev G ((cxK ci).into kScope l [("self", ci)]) m σ (.Name "row" p) r.av σ := by
  refine ev_localI (by kernel_rfl!) hns ?_ (by decide +kernel)
  kwd_rel
theorem tt_goals {r : Rw} {p1 p2 p3 : Pos} (hns : σ[l]? = some (.ns [("row", r.av)])) :
    ∃ g, Tt G ((cxK ci).into kScope l [("self", ci)]) m σ (.Call (.Name "goals_of" p1) [.Name "row" p2] [] p3) (!r.goals.isEmpty) (σ ++ g) := by
  obtain ⟨g, h4, hg⟩ := cl_goals (G := G) (σ := σ) r
  refine ⟨g, tt_val (ev_call (k := 2) ?_ (evs_cons (ev_row hns) evs_nil (by intro _; rfl)) ?_ hg (Nat.le_of_ble_eq_true rfl) (by intro _; rfl)) (tru_list (vs := r.goals) ?_ ?_) (by intro _ _; rfl)⟩
  · refine g_goals_of ?_
    kernel_rfl!
  · refine kp_K ?_
    kernel_rfl!
  · rw [List.getElem?_append_right (by kwd_inv)]
    simpa using h4
  · cases r <;> simp [Rw.goals]
/-- the arguments of turned_row -/
theorem evs_turn {r : Rw} {p5 p6 p7 : Pos} (e : Ek σ ci l r ar n lbs) :
    ∃ il jl im σ', Evs G ((cxK ci).into kScope l [("self", ci)]) m σ [.Name "row" p5, .Lambda lamPars lamBody lamScope lamPos, .Attribute (.Name "self" p6) "goal" p7] [r.av, .loc il, .loc im] σ' ∧
      σ'[il]? = some (.lam jl) ∧ σ'[jl]? = some (.code lamQual) ∧ σ'[im]? = some (.meth 250 4) ∧ Tab σ' ∧ Kpt σ σ' := by
  obtain ⟨il, jl, σ₁, h1, h2, h3, h4, h5, h6, h7⟩ := ev_lam (G := G) (c := (cxK ci).into kScope l [("self", ci)]) (m := m) ⟨_, rfl⟩ rfl rfl e.tab
  have e1 := e.on h4 h5
  refine ⟨il, jl, σ₁.length, σ₁ ++ [.meth 250 4], ?_, at_old h2, at_old h3, at_push rfl, h4.app, h5.trans Kpt.app⟩
  refine evs_cons (ev_row e.ns) (evs_cons h1 (evs_cons ?_ evs_nil (by intro _; rfl)) (by intro _; rfl)) (by intro _; rfl)
  refine ev_meth (i := 4) (d := 3) (C := 260) (g := 250) ?_ e1.w4 e1.w3 ?_ rfl ?_ ?_ ?_ ?_ ?_ ?_ ?_ (by intro _; rfl)
  · refine ev_cellI ?_ ?_ e1.cell ?_
    · kernel_rfl!
    · kt_ors
    · decide +kernel
  · rfl
  all_goals kernel_rfl!
theorem elt_ok {r : Rw} (e : Ek σ ci l r ar n lbs) (hr : r.ok lbs = true) (hw : r.wf lbs) (hz : lbs.length < 1000000) :
    ∃ σ', Ev G ((cxK ci).into kScope l [("self", ci)]) m σ kElt (r.turn lbs) σ' ∧ Tab σ' ∧ Kpt σ σ' := by
  obtain ⟨p0, p1, p2, p3, p4, p5, p6, p7, p8, p9, hk⟩ := kElt_is
  rw [hk]
  obtain ⟨g, ht⟩ := tt_goals (G := G) (m := m) (ci := ci) (p1 := p1) (p2 := p2) (p3 := p3) e.ns
  have e1 := e.on (σ' := σ ++ g) e.tab.app Kpt.app
  have triv : r.goals.isEmpty = true → r.turn lbs = r.av → ∃ σ', Ev G ((cxK ci).into kScope l [("self", ci)]) m σ (.IfExp (.Call (.Name "goals_of" p1) [.Name "row" p2] [] p3) (.Call (.Name "turned_row" p4) [.Name "row" p5, .Lambda lamPars lamBody lamScope lamPos, .Attribute (.Name "self" p6) "goal" p7] [] p8) (.Name "row" p9) p0) (r.turn lbs) σ' ∧ Tab σ' ∧ Kpt σ σ' := fun h1 h2 => by
    rw [h2]
    exact ⟨_, ev_if_F ht (by rw [h1]; rfl) (ev_row e1.ns), e1.tab, Kpt.app⟩
  have hz' : (lbs.map lbv).length < 1000000 := by simpa using hz
  have hgt : Ev G ((cxK ci).into kScope l [("self", ci)]) m (σ ++ g) (.Name "turned_row" p4) (.glob (.ref 119)) (σ ++ g) := by
    refine g_turned_row ?_
    kernel_rfl!
  have hkp : KpV G (.ref 119) := by
    refine kp_K ?_
    kernel_rfl!
  obtain ⟨il, jl, im, σ₂, ha, hil, hjl, him, ht2, k2⟩ := evs_turn (G := G) (m := m) (p5 := p5) (p6 := p6) (p7 := p7) e1
  have e2 := e1.on ht2 k2
  cases r with
  | goto lb =>
    obtain ⟨i, hi1, hi2⟩ := lb_some hr
    obtain ⟨g', hc⟩ := cl_turn_goto (G := G) hil hjl him e2.w4 e2.w3 e2.w6 hz' hw.1 hi2
    refine ⟨σ₂ ++ g', ev_if_T ht rfl (ev_call (k := 2) hgt ha hkp ?_ (Nat.le_of_ble_eq_true rfl) (by intro _; rfl)), ht2.app, (Kpt.app.trans k2).trans Kpt.app⟩
    simp only [Rw.turn, hi1]
    exact hc
  | «unless» s lb =>
    obtain ⟨i, hi1, hi2⟩ := lb_some hr
    obtain ⟨g', hc⟩ := cl_turn_unless (G := G) (s := s) hil hjl him e2.w4 e2.w3 e2.w6 hz' hw.1 hi2
    refine ⟨σ₂ ++ g', ev_if_T ht rfl (ev_call (k := 2) hgt ha hkp ?_ (Nat.le_of_ble_eq_true rfl) (by intro _; rfl)), ht2.app, (Kpt.app.trans k2).trans Kpt.app⟩
    simp only [Rw.turn, hi1]
    exact hc
  | const _ _ => exact triv rfl rfl
  | move _ _ => exact triv rfl rfl
  | call _ _ _ => exact triv rfl rfl
  | ret _ => exact triv rfl rfl
  | rethrow => exact triv rfl rfl
  | setg _ => exact triv rfl rfl
theorem elt_bad {r : Rw} (e : Ek σ ci l r ar n lbs) (hr : r.ok lbs = false) (hw : r.wf lbs) (hz : lbs.length < 1000000) :
    ∃ σ', EvE G ((cxK ci).into kScope l [("self", ci)]) m σ kElt σ' ∧ Kpt σ σ' := by
  obtain ⟨p0, p1, p2, p3, p4, p5, p6, p7, p8, p9, hk⟩ := kElt_is
  rw [hk]
  obtain ⟨g, ht⟩ := tt_goals (G := G) (m := m) (ci := ci) (p1 := p1) (p2 := p2) (p3 := p3) e.ns
  have e1 := e.on (σ' := σ ++ g) e.tab.app Kpt.app
  have hz' : (lbs.map lbv).length < 1000000 := by simpa using hz
  have hgt : Ev G ((cxK ci).into kScope l [("self", ci)]) m (σ ++ g) (.Name "turned_row" p4) (.glob (.ref 119)) (σ ++ g) := by
    refine g_turned_row ?_
    kernel_rfl!
  have hkp : KpV G (.ref 119) := by
    refine kp_K ?_
    kernel_rfl!
  obtain ⟨il, jl, im, σ₂, ha, hil, hjl, him, ht2, k2⟩ := evs_turn (G := G) (m := m) (p5 := p5) (p6 := p6) (p7 := p7) e1
  have e2 := e1.on ht2 k2
  cases r with
  | goto lb =>
    obtain ⟨g', hc⟩ := cl_turnE_goto (G := G) hil hjl him e2.w4 e2.w3 e2.w6 hz' hw.1 (lb_none hr hw.1 hw.2)
    exact ⟨σ₂ ++ g', evE_if_t ht rfl (evE_call (k := 4) hgt ha hkp hc (Nat.le_of_ble_eq_true rfl) (by intro _; rfl)), (Kpt.app.trans k2).trans Kpt.app⟩
  | «unless» s lb =>
    obtain ⟨g', hc⟩ := cl_turnE_unless (G := G) (s := s) hil hjl him e2.w4 e2.w3 e2.w6 hz' hw.1 (lb_none hr hw.1 hw.2)
    exact ⟨σ₂ ++ g', evE_if_t ht rfl (evE_call (k := 4) hgt ha hkp hc (Nat.le_of_ble_eq_true rfl) (by intro _; rfl)), (Kpt.app.trans k2).trans Kpt.app⟩
  | const _ _ => cases hr
  | move _ _ => cases hr
  | call _ _ _ => cases hr
  | ret _ => cases hr
  | rethrow => cases hr
  | setg _ => cases hr
end
end SC10
section SC11
local macro_rules | `(tactic| ktu_offI) => `(tactic|
  first
    | with_reducible refine' cw_emit ?z0 ?z1 ?z2 ?z3 ?z4 ?z5 ?z6
      case z0 => ktu_offL
      case z1 => ktu_offL
      case z2 => ktu_offL
      case z3 => ktu_offL
      case z4 => ktu_offL
      case z5 => ktu_offL
      case z6 => ktu_offL
    | with_reducible refine' cw_constant ?z0 ?z1 ?z2 ?z3 ?z4 ?z5 ?z6
      case z0 => ktu_offL
      case z1 => ktu_offL
      case z2 => ktu_offL
      case z3 => ktu_offL
      case z4 => ktu_offL
      case z5 => ktu_offL
      case z6 => ktu_offL
    | with_reducible refine' cl_Code ?z0 ?z1
      case z0 => ktu_offL
      case z1 => ktu_offL)

section
variable {G : Gl} {m : List (PySem.Str × AV)} {σ σ0 : List AO} {ci p k : Nat} {ar n : Int} {lbs : List (Option Int)} {rws : List Rw} {acc : List AV}
/-- the writer's own things -/
structure Wr (σ : List AO) (ar n : Int) (rws : List Rw) (lbs : List (Option Int)) : Prop where
  tab : Tab σ
  w3 : σ[3]? = some (wO ar n 5 6 7)
  w4 : σ[4]? = some (.inst 260 3)
  w5 : σ[5]? = some (.list (rws.map Rw.av))
  w6 : σ[6]? = some (.list (lbs.map lbv))
theorem Wr.on {σ' : List AO} (e : Wr σ ar n rws lbs) (ht : Tab σ') (hk : Kpt σ σ') : Wr σ' ar n rws lbs :=
  ⟨ht, hk _ _ (by decide) e.w3, hk _ _ (by decide) e.w4, hk _ _ (by decide) e.w5, hk _ _ (by decide) e.w6⟩
structure CT (σ σ0 : List AO) (p k : Nat) (acc : List AV) : Prop where
  tab : Tab σ
  fr : ∀ i x, i ≠ 0 → i < p → σ0[i]? = some x → σ[i]? = some x
  lit : σ[p]? = some (.lit 5 k)
  lst : σ[p + 1]? = some (.list acc)
  ns : ∃ mb, σ[p + 2]? = some (.ns mb) ∧ put "row" AV.none mb = [(("row" : PySem.Str), AV.none)]
theorem put_row {mb : List (PySem.Str × AV)} {v : AV} (h : put "row" AV.none mb = [(("row" : PySem.Str), AV.none)]) : put "row" v mb = [(("row" : PySem.Str), v)] := by
  cases mb with
  | nil => rfl
  | cons q r =>
    obtain ⟨x, u⟩ := q
    simp only [put] at h ⊢
    split at h <;> rename_i hx
    · simp only [List.cons.injEq] at h
      rw [if_pos hx, h.2]
      exact congrArg (fun z => [(z, v)]) (Prod.mk.inj h.1).1
    · simp only [List.cons.injEq, Prod.mk.injEq] at h
      exact absurd h.1.1.symm (by simpa [eq_comm] using hx)
structure Bk (σ0 : List AO) (ci p : Nat) (ar n : Int) (rws : List Rw) (lbs : List (Option Int)) : Prop where
  w : Wr σ0 ar n rws lbs
  cell : σ0[ci]? = some (.cell (some (.loc 4)))
  ci0 : ci ≠ 0
  cip : ci < p
  p6 : 6 < p
/-- a row is drawn -/
theorem row_drawn {r : Rw} (B : Bk σ0 ci p ar n rws lbs) (H : CT σ σ0 p k acc) (hr : rws[k]? = some r) :
    ∃ σ₁, Dr G ((cxK ci).into kScope (p + 2) [("self", ci)]) m σ kTg (.loc p) m σ₁ ∧ Ek σ₁ ci (p + 2) r ar n lbs ∧ CT σ₁ σ0 p (k + 1) acc := by
  obtain ⟨q, hq⟩ := kTg_is
  obtain ⟨mb, hn, hp⟩ := H.ns
  rw [hq]
  have hne : ∀ x, (σ.set p x)[p + 2]? = some (.ns mb) := fun x => at_set_ne (by kwd_inv) hn
  have t1 : Tab (σ.set p (.lit 5 (k + 1))) := H.tab.set H.lit (fun t q => by cases q) (fun q => by cases q)
  have t2 : Tab ((σ.set p (.lit 5 (k + 1))).set (p + 2) (.ns [("row", r.av)])) := t1.set (hne _) (fun t q => by cases q) (fun q => by cases q)
  have fr : ∀ i x, i ≠ 0 → i < p → σ0[i]? = some x → ((σ.set p (.lit 5 (k + 1))).set (p + 2) (.ns [("row", r.av)]))[i]? = some x := fun i x h0 hi e => at_set_ne (by kwd_inv) (at_set_ne (by kwd_inv) (H.fr i x h0 hi e))
  have p6 := B.p6
  have hns : ((σ.set p (.lit 5 (k + 1))).set (p + 2) (.ns [("row", r.av)]))[p + 2]? = some (.ns [("row", r.av)]) := at_set_eq (hne _)
  refine ⟨_, dr_list H.lit (H.fr 5 _ (by decide) (by kwd_inv) B.w.w5) (v := r.av) (by simp [hr]) (as_name (sn_blockI (mb := mb) (mb' := [("row", r.av)]) ?_ (hne _) (put_row hp))) (by intro _ _; rfl), ?_, ?_⟩
  · kernel_rfl!
  · exact ⟨t2, fr 3 _ (by decide) (by kwd_inv) B.w.w3, fr 4 _ (by decide) (by kwd_inv) B.w.w4, fr 6 _ (by decide) (by kwd_inv) B.w.w6, fr ci _ B.ci0 B.cip B.cell, B.ci0, by omega, hns⟩
  · exact ⟨t2, fr, at_set_ne (by kwd_inv) (at_set_eq H.lit), at_set_ne (by kwd_inv) (at_set_ne (by kwd_inv) H.lst), ⟨_, hns, rfl⟩⟩
theorem CT.on {σ' : List AO} (H : CT σ σ0 p k acc) (hp : p ≠ 0) (ht : Tab σ') (hk : Kpt σ σ') : CT σ' σ0 p k acc := by
  obtain ⟨mb, hn, hq⟩ := H.ns
  exact ⟨ht, fun i x h0 hi e => hk i x h0 (H.fr i x h0 hi e), hk _ _ hp H.lit, hk _ _ (by kwd_inv) H.lst, ⟨mb, hk _ _ (by kwd_inv) hn, hq⟩⟩
theorem CT.app {u : AV} (H : CT σ σ0 p k acc) (hp : p ≠ 0) : CT (σ.set (p + 1) (.list (acc ++ [u]))) σ0 p k (acc ++ [u]) := by
  obtain ⟨mb, hn, hq⟩ := H.ns
  exact ⟨H.tab.set H.lst (fun t q => by cases q) (fun q => by cases q), fun i x h0 hi e => at_set_ne (by kwd_inv) (H.fr i x h0 hi e), at_set_ne (by kwd_inv) H.lit, at_set_eq H.lst, ⟨mb, at_set_ne (by kwd_inv) hn, hq⟩⟩
theorem lp_rows (B : Bk σ0 ci p ar n rws lbs) (hz : lbs.length < 1000000) : ∀ (rest : List Rw) (k : Nat) (σ : List AO) (acc : List AV), rws.drop k = rest → CT σ σ0 p k acc → (∀ r ∈ rest, r.ok lbs = true ∧ r.wf lbs) → acc.length + rest.length ≤ sizeLine →
    ∃ σ', Lp G ((cxK ci).into kScope (p + 2) [("self", ci)]) m kElt kTg [] (.loc p) (p + 1) σ σ' ∧ (∀ i x, i ≠ 0 → i < p → σ0[i]? = some x → σ'[i]? = some x) ∧ σ'[p + 1]? = some (.list (acc ++ rest.map (Rw.turn lbs))) ∧ ∃ mb, σ'[p + 2]? = some (.ns mb)
  | [], k, σ, acc, hd, H, _, _ => by
    have p6 := B.p6
    have hk : rws[k]? = none := by
      rw [List.getElem?_eq_none_iff]
      have : (rws.drop k).length = 0 := by rw [hd]; rfl
      simp at this; omega
    obtain ⟨mb, hn, _⟩ := H.ns
    refine ⟨_, .done (nd_list H.lit (H.fr 5 _ (by decide) (by kwd_inv) B.w.w5) (by simp [hk])), fun i x h0 hi e => at_set_ne (by kwd_inv) (H.fr i x h0 hi e), ?_, ⟨mb, at_set_ne (by kwd_inv) hn⟩⟩
    rw [List.map_nil, List.append_nil]
    exact at_set_ne (by kwd_inv) H.lst
  | r :: rest, k, σ, acc, hd, H, hall, hsz => by
    have p6 := B.p6
    have hk : rws[k]? = some r := by rw [← List.head?_drop, hd]; rfl
    have hd' : rws.drop (k + 1) = rest := by rw [← List.tail_drop, hd]; rfl
    obtain ⟨σ₁, h1, E1, H1⟩ := row_drawn (G := G) (m := m) B H hk
    obtain ⟨ho, hw⟩ := hall r (by simp)
    obtain ⟨σ₂, h2, t2, k2⟩ := elt_ok (G := G) (m := m) E1 ho hw hz
    have H2 := H1.on (by kwd_inv) t2 k2
    obtain ⟨σ', h3, f3, l3, n3⟩ := lp_rows B hz rest (k + 1) _ _ hd' (H2.app (u := r.turn lbs) (by kwd_inv)) (fun x hx => hall x (by simp [hx])) (by simp at hsz ⊢; omega)
    refine ⟨σ', .keep h1 ts_nil h2 H2.lst (by simp at hsz; omega) h3, f3, ?_, n3⟩
    rw [l3]; simp
theorem lpE_rows (B : Bk σ0 ci p ar n rws lbs) (hz : lbs.length < 1000000) : ∀ (rest : List Rw) (k : Nat) (σ : List AO) (acc : List AV), rws.drop k = rest → CT σ σ0 p k acc → (∀ r ∈ rest, r.wf lbs) → (∃ r ∈ rest, r.ok lbs = false) → acc.length + rest.length ≤ sizeLine →
    ∃ σ', LpE G ((cxK ci).into kScope (p + 2) [("self", ci)]) m kElt kTg [] (.loc p) (p + 1) σ σ' ∧ (∀ i x, i ≠ 0 → i < p → σ0[i]? = some x → σ'[i]? = some x) ∧ ∃ mb, σ'[p + 2]? = some (.ns mb)
  | [], k, σ, acc, hd, H, _, hb, _ => by obtain ⟨r, hr, _⟩ := hb; cases hr
  | r :: rest, k, σ, acc, hd, H, hall, hb, hsz => by
    have p6 := B.p6
    have hk : rws[k]? = some r := by rw [← List.head?_drop, hd]; rfl
    have hd' : rws.drop (k + 1) = rest := by rw [← List.tail_drop, hd]; rfl
    obtain ⟨σ₁, h1, E1, H1⟩ := row_drawn (G := G) (m := m) B H hk
    have hw := hall r (by simp)
    cases ho : r.ok lbs with
    | false =>
      obtain ⟨σ₂, h2, k2⟩ := elt_bad (G := G) (m := m) E1 ho hw hz
      obtain ⟨mb, hn, _⟩ := H1.ns
      exact ⟨σ₂, .stop h1 ts_nil h2, fun i x h0 hi e => k2 i x h0 (H1.fr i x h0 hi e), ⟨mb, k2 _ _ (by kwd_inv) hn⟩⟩
    | true =>
      obtain ⟨σ₂, h2, t2, k2⟩ := elt_ok (G := G) (m := m) E1 ho hw hz
      have H2 := H1.on (by kwd_inv) t2 k2
      have hb' : ∃ r ∈ rest, r.ok lbs = false := by
        obtain ⟨x, hx, hxo⟩ := hb
        rcases List.mem_cons.mp hx with q | q
        · subst q; rw [ho] at hxo; cases hxo
        · exact ⟨x, q, hxo⟩
      obtain ⟨σ', h3, f3, n3⟩ := lpE_rows B hz rest (k + 1) _ _ hd' (H2.app (u := r.turn lbs) (by kwd_inv)) (fun x hx => hall x (by simp [hx])) hb' (by simp at hsz ⊢; omega)
      exact ⟨σ', .keep h1 ts_nil h2 H2.lst (by simp at hsz; omega) h3, f3, n3⟩
theorem kStmt_is : ∃ q0 q1 q2 q3 q4, kStmt = .Assign [.Name "rows" q0] (.ListComp kElt [⟨kTg, .Attribute (.Name "self" q1) "rows" q2, [], 0⟩] kScope q3) q4 ∧
    ∀ (ci : Nat) (F : Fm), swapsWith (.ListComp kElt [⟨kTg, .Attribute (.Name "self" q1) "rows" q2, [], 0⟩] kScope q3) (some (.Name "rows" q0)) q4.line (ev (cxK ci) F) = pure true := ⟨_, _, _, _, _, rfl, by intro _ F; kernel_rfl!⟩
theorem ct_start (B : Bk σ ci σ.length ar n rws lbs) : CT (σ ++ [AO.lit 5 0] ++ [.list []] ++ [.ns []]) σ σ.length 0 [] :=
  ⟨((B.w.tab.app).app).app, fun i x _ _ e => at_old (at_old (at_old e)), at_old (at_old (at_push rfl)), at_old (at_push (by simp)), ⟨[], at_push (by simp), rfl⟩⟩
theorem comp_iter {q1 q2 : Pos} (w : Wr σ ar n rws lbs) (hc : σ[ci]? = some (.cell (some (.loc 4)))) : Ev G (cxK ci) m σ (.Attribute (.Name "self" q1) "rows" q2) (.loc 5) σ := by
  have w3 := w.w3
  have w4 := w.w4
  kpt_turns
theorem code_comp (B : Bk σ ci σ.length ar n rws lbs) (hz : lbs.length < 1000000) (hall : ∀ r ∈ rws, r.ok lbs = true ∧ r.wf lbs) (hsz : rws.length ≤ sizeLine) :
    ∃ σ', S1 G (cxK ci) [("marks", .tup [.str "m"])] σ kStmt .next [("marks", .tup [.str "m"]), ("rows", .loc (σ.length + 1))] σ' ∧ (∀ i x, i ≠ 0 → i < σ.length → σ[i]? = some x → σ'[i]? = some x) ∧ σ'[σ.length + 1]? = some (.list (rws.map (Rw.turn lbs))) := by
  obtain ⟨q0, q1, q2, q3, q4, hk, hsw⟩ := kStmt_is
  rw [hk]
  obtain ⟨σ', h3, f3, l3, mb, n3⟩ := lp_rows (G := G) (m := [("marks", .tup [.str "m"])]) B hz rws 0 _ [] rfl (ct_start B) hall (by simpa using hsz)
  refine ⟨_, s_assign_comp (n := σ.length + 1) (cs := [("self", ci)]) (mb := mb) (σ₃ := σ') (σ₄ := σ') ?_ ?_ ?_ ?_ (comp_iter B.w B.cell) (pi_list B.w.w5 rfl) (by simp) (pi_lit (j := 5) (k := 0) (ct_start B).lit) h3 ?_ n3 n3 (hsw ci) (by intro _ _; rfl), fun i x h0 hi e => at_set_ne (by kwd_inv) (f3 i x h0 hi e), at_set_ne (by kwd_inv) (by simpa using l3)⟩
  · kernel_rfl!
  · kernel_rfl!
  · kernel_rfl!
  · kernel_rfl!
  · refine sn_put rfl ?_ ?_
    · kernel_rfl!
    · kwd_less
theorem code_compE (B : Bk σ ci σ.length ar n rws lbs) (hz : lbs.length < 1000000) (hall : ∀ r ∈ rws, r.wf lbs) (hb : ∃ r ∈ rws, r.ok lbs = false) (hsz : rws.length ≤ sizeLine) :
    ∃ σ', S1E G (cxK ci) [("marks", .tup [.str "m"])] σ kStmt true [("marks", .tup [.str "m"])] σ' ∧ (∀ i x, i ≠ 0 → i < σ.length → σ[i]? = some x → σ'[i]? = some x) := by
  obtain ⟨q0, q1, q2, q3, q4, hk, hsw⟩ := kStmt_is
  rw [hk]
  obtain ⟨σ', h3, f3, mb, n3⟩ := lpE_rows (G := G) (m := [("marks", .tup [.str "m"])]) B hz rws 0 _ [] rfl (ct_start B) hall hb (by simpa using hsz)
  refine ⟨_, s_assign_compE (n := σ.length + 1) (cs := [("self", ci)]) (mb := mb) ?_ ?_ ?_ ?_ (comp_iter B.w B.cell) (pi_list B.w.w5 rfl) (by simp) (pi_lit (j := 5) (k := 0) (ct_start B).lit) h3 n3 (hsw ci) (by intro _ _; rfl), fun i x h0 hi e => at_set_ne (by kwd_inv) (f3 i x h0 hi e)⟩
  · kernel_rfl!
  · kernel_rfl!
  · kernel_rfl!
  · kernel_rfl!
end
end SC11
section SC12
local macro_rules | `(tactic| ktu_offI) => `(tactic|
  first
    | with_reducible refine' cw_emit ?z0 ?z1 ?z2 ?z3 ?z4 ?z5 ?z6
      case z0 => ktu_offL
      case z1 => ktu_offL
      case z2 => ktu_offL
      case z3 => ktu_offL
      case z4 => ktu_offL
      case z5 => ktu_offL
      case z6 => ktu_offL
    | with_reducible refine' cw_constant ?z0 ?z1 ?z2 ?z3 ?z4 ?z5 ?z6
      case z0 => ktu_offL
      case z1 => ktu_offL
      case z2 => ktu_offL
      case z3 => ktu_offL
      case z4 => ktu_offL
      case z5 => ktu_offL
      case z6 => ktu_offL
    | with_reducible refine' cl_Code ?z0 ?z1
      case z0 => ktu_offL
      case z1 => ktu_offL)

/-! what is plain in the rows -/
noncomputable def Rw.plain : Rw → Prop
  | .const _ c => pl 7 c = true ∧ pl 8 c = true | .call _ _ xs => pls 6 xs = true ∧ pls 7 xs = true | _ => True
theorem str_lits : PyData.strOk "const" = true ∧ PyData.strOk "move" = true ∧ PyData.strOk "call" = true ∧ PyData.strOk "goto" = true ∧ PyData.strOk "unless" = true ∧ PyData.strOk "return" = true ∧ PyData.strOk "rethrow" = true ∧ PyData.strOk "setglobal" = true ∧ PyData.strOk "x" = true := by
  refine ⟨?_, ?_, ?_, ?_, ?_, ?_, ?_, ?_, ?_⟩ <;> kernel_rfl!
theorem Rw.pl_av {r : Rw} (h : r.plain) : pl 9 r.av = true := by
  obtain ⟨s1, s2, s3, s4, s5, s6, s7, s8, s9⟩ := str_lits
  cases r <;> simp_all [Rw.av, pl, pls, Rw.plain]
theorem Rw.pl_av7 {r : Rw} (h : r.plain) : pl 8 r.av = true := by
  obtain ⟨s1, s2, s3, s4, s5, s6, s7, s8, s9⟩ := str_lits
  cases r <;> simp_all [Rw.av, pl, pls, Rw.plain]
theorem pls_rows {rws : List Rw} (h : ∀ r ∈ rws, r.plain) : pls 9 (rws.map Rw.av) = true := by
  rw [pls_iff]
  intro v hv
  obtain ⟨r, hr, rfl⟩ := List.mem_map.mp hv
  exact Rw.pl_av (h r hr)
theorem pls_lbs {lbs : List (Option Int)} : pls 9 (lbs.map lbv) = true := by
  rw [pls_iff]
  intro v hv
  obtain ⟨r, hr, rfl⟩ := List.mem_map.mp hv
  cases r <;> rfl
theorem rows_ok (rws : List Rw) : rowsOk (rws.map Rw.av) := by
  rcases List.eq_nil_or_concat rws with h | ⟨i, r, h⟩
  · left; rw [h]; rfl
  · right
    refine ⟨i.map Rw.av, r.nm, r.rest, ?_⟩
    rw [h, List.concat_eq_append, List.map_append, List.map_singleton, Rw.av_eq]
/-- how the end is closed -/
noncomputable def clN (o : Bool) (n : Int) : Int := if o then n + 1 else n
noncomputable def clR (o : Bool) (n : Int) (rws : List Rw) : List Rw := if o then rws ++ [.const n (.tup [.str "nothing"]), .ret n] else rws
noncomputable abbrev opR (rws : List Rw) (lbs : List (Option Int)) : Bool := opn (rws.map Rw.av) (lbs.map lbv)
noncomputable def Kpw (σ σ' : List AO) : Prop := ∀ (i : Nat) (x : AO), i ≠ 0 → i ≠ 3 → i ≠ 5 → σ[i]? = some x → σ'[i]? = some x
theorem Kpw.trans {a b c : List AO} (h : Kpw a b) (h' : Kpw b c) : Kpw a c := fun i x h0 h3 h5 e => h' i x h0 h3 h5 (h i x h0 h3 h5 e)
theorem Kpt.w {a b : List AO} (h : Kpt a b) : Kpw a b := fun i x h0 _ _ e => h i x h0 e
section
variable {G : Gl} {σ : List AO} {ci : Nat} {ar n : Int} {lbs : List (Option Int)} {rws : List Rw}
theorem code_first (w : Wr σ ar n rws lbs) (hc : σ[ci]? = some (.cell (some (.loc 4)))) (hz : rws.length ≤ 100000) (hp : ∀ r ∈ rws, r.plain) :
    ∃ σ', S1 G (cxK ci) [("marks", .tup [.str "m"])] σ ((dBody (inClass 15 12)).headD noStmt) .next [("marks", .tup [.str "m"])] σ' ∧ Wr σ' ar (clN (opR rws lbs) n) (clR (opR rws lbs) n rws) lbs ∧ Kpw σ σ' := by
  have w3 := w.w3
  have w4 := w.w4
  obtain ⟨g, hio⟩ := cw_is_open (G := G) w.w4 w.w3 w.w5 w.w6 (by simpa using hz) (pls_rows hp) pls_lbs (rows_ok rws)
  have W := w.on (σ' := σ ++ g) w.tab.app Kpt.app
  have w3' := W.w3
  have w4' := W.w4
  have w5' := W.w5
  have hc' : (σ ++ g)[ci]? = some (.cell (some (.loc 4))) := by rw [List.getElem?_append_left (List.getElem?_eq_some_iff.mp hc).1]; exact hc
  have hz' : (rws.map Rw.av).length ≤ 100000 := by simpa using hz
  cases ho : opR rws lbs with
  | false =>
    have ho' : opn (rws.map Rw.av) (lbs.map lbv) = false := ho
    rw [ho'] at hio
    refine ⟨σ ++ g, ?_, W, Kpt.app.w⟩
    refine' s_if_F0 ?a ?b
    case a => kln_le
    case b => rfl
  | true =>
    have ho' : opn (rws.map Rw.av) (lbs.map lbv) = true := ho
    rw [ho'] at hio
    have ne3 : ci ≠ 3 := fun q => by rw [q, w3] at hc; cases hc
    have ne5 : ci ≠ 5 := fun q => by rw [q, w.w5] at hc; cases hc
    refine ⟨?σ', ?s, ?t, ?u⟩
    case s =>
      refine' s_if_T ?a ?b ?c
      case a => kln_le
      case b => rfl
      case c =>
        refine' sx_next ?d ?e
        case d => kst_p
        case e => exact sx_nil
    case t =>
      refine ⟨?_, ?_, ?_, ?_, ?_⟩
      · have t1 : Tab ((σ ++ g).set 3 (wO ar (n + 1) 5 6 7)) := W.tab.set w3' (fun t q => by cases q) (fun q => by cases q)
        have t2 := t1.set (i := 5) (x := .list (rws.map Rw.av ++ [.tup [.str "const", .int n, .tup [.str "nothing"]]])) (at_set_ne (by decide) w5') (fun t q => by cases q) (fun q => by cases q)
        exact t2.set (i := 5) (at_set_eq (at_set_ne (by decide) w5')) (fun t q => by cases q) (fun q => by cases q)
      · simp only [clN, if_true]
        exact at_set_ne (by decide) (at_set_ne (by decide) (at_set_eq w3'))
      · exact at_set_ne (by decide) (at_set_ne (by decide) (at_set_ne (by decide) w4'))
      · simp only [clR, if_true]
        rw [at_set_eq (at_set_eq (at_set_ne (by decide) w5'))]
        simp [Rw.av]
      · exact at_set_ne (by decide) (at_set_ne (by decide) (at_set_ne (by decide) W.w6))
    case u => exact fun i x h0 h3 h5 e => at_set_ne (Ne.symm h5) (at_set_ne (Ne.symm h5) (at_set_ne (Ne.symm h3) (Kpt.app _ _ h0 e)))
theorem kBody_is : dBody (inClass 15 12) = [(dBody (inClass 15 12)).headD noStmt, kStmt, (dBody (inClass 15 12)).getD 2 noStmt] := by rfl
theorem code_last {il : Nat} {rs : List AV} (w3 : σ[3]? = some (wO ar n 5 6 7)) (w4 : σ[4]? = some (.inst 260 3)) (hc : σ[ci]? = some (.cell (some (.loc 4)))) (hl : σ[il]? = some (.list rs)) (hz : rs.length ≤ sizeLine) :
    S1 G (cxK ci) [("marks", .tup [.str "m"]), ("rows", .loc il)] σ ((dBody (inClass 15 12)).getD 2 noStmt) (.ret (.loc (σ.length + 1))) [("marks", .tup [.str "m"]), ("rows", .loc il)] (σ ++ [codeO ar n rs, .inst 98 σ.length]) := by
  refine' s_ret ?a
  case a => kpt_turns
theorem code_bind : ∀ (s : Shared) (ws : List Value), G.K.In s.heap → ws.length = [AV.loc 4, .tup [.str "m"]].length → BindsTo s (fdOf (inClass 15 12) "Writer.code" (.ref 252) (.str "methodrows.lower_context" 413) (.ref 256)) ⟨ws, []⟩ ((["self", "marks"] : List PySem.Str).zip ws) := fun s ws X hl => by
  obtain ⟨a, b, q⟩ := len2 hl; subst q
  refine binds_K X rfl (o := ⟨.type "tuple", none, .seq #[.ref 251] 0, #[]⟩) (items := #[.ref 251]) (n := 0) (by kernel_rfl!) rfl (by rfl) ?_; rfl
theorem code_start (w : Wr σ ar n rws lbs) (hL : 6 < σ.length) (hz : rws.length ≤ 100000) (hp : ∀ r ∈ rws, r.plain) :
    ∃ σ', S1 G (cxK σ.length) [("marks", .tup [.str "m"])] (σ ++ [.cell (some (.loc 4))]) ((dBody (inClass 15 12)).headD noStmt) .next [("marks", .tup [.str "m"])] σ' ∧ Bk σ' σ.length σ'.length ar (clN (opR rws lbs) n) (clR (opR rws lbs) n rws) lbs ∧ Kpw σ σ' := by
  have hc : (σ ++ [AO.cell (some (.loc 4))])[σ.length]? = some (.cell (some (.loc 4))) := at_push rfl
  obtain ⟨σ₁, h1, W1, k1⟩ := code_first (G := G) (w.on (σ' := σ ++ [.cell (some (.loc 4))]) w.tab.app Kpt.app) hc hz hp
  have hc1 := k1 _ _ (by kwd_inv) (by kwd_inv) (by kwd_inv) hc
  exact ⟨σ₁, h1, ⟨W1, hc1, by omega, (List.getElem?_eq_some_iff.mp hc1).1, (List.getElem?_eq_some_iff.mp W1.w6).1⟩, Kpt.app.w.trans k1⟩
theorem cw_code_ok (w : Wr σ ar n rws lbs) (hL : 6 < σ.length) (hz : rws.length ≤ 100000) (hp : ∀ r ∈ rws, r.plain) (hz2 : lbs.length < 1000000) (hall : ∀ r ∈ clR (opR rws lbs) n rws, r.ok lbs = true ∧ r.wf lbs) :
    ∃ i d σ', Cl G 5 (.ref 257) [.loc 4, .tup [.str "m"]] σ (.loc i) σ' ∧ σ'[i]? = some (.inst 98 d) ∧ σ'[d]? = some (codeO ar (clN (opR rws lbs) n) ((clR (opR rws lbs) n rws).map (Rw.turn lbs))) ∧ Kpw σ σ' := by
  obtain ⟨σ₁, h1, B1, k1⟩ := code_start (G := G) w hL hz hp
  have hlr : (clR (opR rws lbs) n rws).length ≤ sizeLine := by
    unfold clR
    split
    · simp only [List.length_append, List.length_cons, List.length_nil, sizeLine_eq]; omega
    · rw [sizeLine_eq]; omega
  obtain ⟨σ₂, h2, f2, l2⟩ := code_comp (G := G) B1 hz2 hall hlr
  have p6 := B1.p6
  have h3 := code_last (G := G) (ci := σ.length) (f2 3 _ (by decide) (by kwd_inv) B1.w.w3) (f2 4 _ (by decide) (by kwd_inv) B1.w.w4) (f2 _ _ B1.ci0 B1.cip B1.cell) l2 (by simpa using hlr)
  have hb : Sx G (cxK σ.length) [("marks", .tup [.str "m"])] (σ ++ [.cell (some (.loc 4))]) (dBody (inClass 15 12)) (.ret (.loc (σ₂.length + 1))) [("marks", .tup [.str "m"]), ("rows", .loc (σ₁.length + 1))] (σ₂ ++ [codeO ar (clN (opR rws lbs) n) ((clR (opR rws lbs) n rws).map (Rw.turn lbs)), .inst 98 σ₂.length]) := by
    rw [kBody_is]
    exact sx_next h1 (sx_next h2 (sx_stop h3 (by intro q; cases q)))
  refine ⟨σ₂.length + 1, σ₂.length, σ₂ ++ [codeO ar (clN (opR rws lbs) n) ((clR (opR rws lbs) n rws).map (Rw.turn lbs)), .inst 98 σ₂.length], ?_, by simp, by simp, k1.trans (fun i x h0 h3 h5 e => Kpt.app _ _ h0 (f2 i x h0 (List.getElem?_eq_some_iff.mp e).1 e))⟩
  refine cl_defC (xs := ["self", "marks"]) (cs := [("self", σ.length)]) (ca := [.cell (some (.loc 4))]) (ml := [("marks", .tup [.str "m"])]) ho_Writer_code ?_ code_bind ?_ ?_ ?_ ?_ rfl ?_ ?_ ?_ ?_ hb ?_ ?_ ?_ ?_ <;> kqd_all
theorem cw_code_bad (w : Wr σ ar n rws lbs) (hL : 6 < σ.length) (hz : rws.length ≤ 100000) (hp : ∀ r ∈ rws, r.plain) (hz2 : lbs.length < 1000000) (hall : ∀ r ∈ clR (opR rws lbs) n rws, r.wf lbs) (hb : ∃ r ∈ clR (opR rws lbs) n rws, r.ok lbs = false) :
    ∃ σ', ClE G 5 (.ref 257) [.loc 4, .tup [.str "m"]] σ σ' ∧ Kpw σ σ' := by
  obtain ⟨σ₁, h1, B1, k1⟩ := code_start (G := G) w hL hz hp
  have hlr : (clR (opR rws lbs) n rws).length ≤ sizeLine := by
    unfold clR
    split
    · simp only [List.length_append, List.length_cons, List.length_nil, sizeLine_eq]; omega
    · rw [sizeLine_eq]; omega
  obtain ⟨σ₂, h2, f2⟩ := code_compE (G := G) B1 hz2 hall hb hlr
  have hb : SxE G (cxK σ.length) [("marks", .tup [.str "m"])] (σ ++ [.cell (some (.loc 4))]) (dBody (inClass 15 12)) true [("marks", .tup [.str "m"])] σ₂ := by
    rw [kBody_is]
    exact sxE_next h1 (sxE_head h2)
  refine ⟨σ₂, ?_, k1.trans (fun i x h0 h3 h5 e => f2 i x h0 (List.getElem?_eq_some_iff.mp e).1 e)⟩
  refine cl_defCE (xs := ["self", "marks"]) (cs := [("self", σ.length)]) (ca := [.cell (some (.loc 4))]) (ml := [("marks", .tup [.str "m"])]) ho_Writer_code ?_ code_bind ?_ ?_ ?_ ?_ rfl ?_ ?_ ?_ ?_ hb ?_ ?_ ?_ <;> kqd_all
end
end SC12
section SC13
variable {G : Gl} {σ σ' τ : List AO} {ar n : Int} {i : Nat}
theorem cl_lcode_ok (w3 : σ[3]? = some (wO ar n 5 6 7)) (w4 : σ[4]? = some (.inst 260 3)) (hc : Cl G 5 (.ref 257) [.loc 4, .tup [.str "m"]] σ (.loc i) σ') :
    Cl G 6 (.ref 318) [.loc 4] σ (.loc i) σ' := by
  have h : Sx G (cxF 5 "_law_code" (atTop 24) 318 (.ref 317)) [("writer", .loc 4)] σ (dBody (atTop 24)) (.ret (.loc i)) [("writer", .loc 4)] σ' := by
    refine' sx_stop ?a ?b
    case a =>
      refine' s_try_ret ?c
      case c => kt_eqs
    case b => intro q; cases q
  refine cl_def (xs := ["writer"]) ho_law_code ?_ ?_ ?_ ?_ h ?_ ?_ ?_ ?_ ?_ <;> kqd_all
theorem cl_lcode_bad (w3 : σ[3]? = some (wO ar n 5 6 7)) (w4 : σ[4]? = some (.inst 260 3)) (hc : ClE G 5 (.ref 257) [.loc 4, .tup [.str "m"]] σ τ) :
    ClX G 6 (.ref 318) [.loc 4] σ .none τ := by
  have h : SxX G (cxF 5 "_law_code" (atTop 24) 318 (.ref 317)) [("writer", .loc 4)] σ (dBody (atTop 24)) (.ret .none) τ := by
    refine' sxX_head ?a ?b
    case a =>
      refine' s_try_catch (m₁ := [("writer", .loc 4)]) ?c ?d ?e
      case c => rfl
      case d => kernel_rfl!
      case e =>
        refine' sxE_head ?f
        case f =>
          refine' s_retE ?g
          case g =>
            refine' evE_callm ?u1 ?u2 ?u3 ?u4 ?u5 ?u6 ?u7 ?u8 ?u9 ?u10
            case u1 => kpt_turns
            case u2 => kbt_split
            case u3 => kc_close
            case u4 => kcf_all
            case u5 => exact hc
            case u6 => exact Nat.le_of_ble_eq_true rfl
            case u7 => intro _; rfl
            case u8 => rfl
            case u9 => intro _; rfl
            case u10 => rfl
    case b => intro q; cases q
  refine cl_defX (xs := ["writer"]) ho_law_code ?_ ?_ ?_ ?_ h ?_ ?_ ?_ ?_ ?_ <;> kqd_all
end SC13
section SC14
local macro_rules | `(tactic| ktu_offI) => `(tactic|
  first
    | with_reducible refine' cl_tap ?z0 ?z1 ?z2
      case z0 => ktu_offL
      case z1 => ktu_offL
      case z2 => ktu_offL
    | with_reducible refine' cl_Writer
      )

noncomputable abbrev cxR : Cx := ⟨6, "_law_written_right", dScope (atTop 25), 323, .ref 322, [("own", 2)], none⟩
noncomputable abbrev mR (ar : Int) : List (PySem.Str × AV) := [("keg", .loc 1), ("arity", .int ar), ("writer", .loc 4)]
noncomputable abbrev mRt (ar t : Int) : List (PySem.Str × AV) := [("keg", .loc 1), ("arity", .int ar), ("writer", .loc 4), ("turn", .int t)]
noncomputable abbrev SR (a b ar n : Int) (rws : List Rw) (lbs : List (Option Int)) (g : List AO) : List AO := SS (.tab none) (.cell (some (.loc 8))) a b ar n rws lbs g
variable {G : Gl} {σ : List AO}
section
variable {a b ar n t : Int} {rws : List Rw} {lbs : List (Option Int)} {g : List AO}
theorem wr_0 : S1 G cxR [("keg", .loc 1)] [.tab none, .list [.int a, .int b], .cell none] ((dBody (atTop 25)).headD noStmt) .next [("keg", .loc 1), ("arity", .int (1 + tapR a b 4))] [.tab none, .list [.int (tapA a 4), .int (tapB a b)], .cell none] := by
  refine' s1_to ?k1 ?k2 ?k3
  case k1 =>
    refine' s_assign ?a ?b ?c
    case a => kpt_turns
    case b => kd_p1
    case c => intro _; rfl
  case k2 => rfl
  case k3 => rfl
theorem wr_1 : S1 G cxR [("keg", .loc 1), ("arity", .int ar)] [.tab none, .list [.int a, .int b], .cell none] ((dBody (atTop 25)).getD 1 noStmt) .next (mR ar) (SR a b ar ar [] [] []) := by
  refine' s1_to ?k1 ?k2 ?k3
  case k1 =>
    refine' s_assign_tup ?uc ?ud ?uf ?ug
    case uc =>
      refine' ev_tuple ?va ?vb
      case va =>
        refine' evs_cons ?wa ?wb ?wc
        case wa => kpt_turns
        case wb =>
          refine' evs_cons ?xa ?xb ?xc
          case xa =>
            refine' ev_dict (n := 8) ?da ?db ?dc ?dd ?de ?df ?dg ?dh
            case da => rfl
            case db =>
              refine' eps_cons ?ea ?eb ?ec
              case ea => kpt_turns
              case eb => kpt_turns
              case ec =>
                refine' eps_cons ?fa ?fb ?fc
                case fa => kpt_turns
                case fb => kpt_turns
                case fc =>
                  refine' eps_cons ?ga ?gb ?gc
                  case ga => kpt_turns
                  case gb => kpt_turns
                  case gc => exact eps_nil
            case dc => rfl
            case dd => exact (by decide +kernel : ([("slots" : PySem.Str), "rows", "labels"]).Nodup)
            case de => rfl
            case df => rfl
            case dg => intro q; cases q
            case dh => decide
          case xb => exact evs_nil
          case xc => intro _; rfl
        case wc => intro _; rfl
      case vb => exact Nat.le_of_ble_eq_true rfl
    case ud =>
      refine' as_tuple ?ta ?tb ?tc
      case ta => kst_mem
      case tb => intro _; rfl
      case tc => intro _; rfl
    case uf => intro _; rfl
    case ug => intro F; kernel_rfl!
  case k2 => rfl
  case k3 => rfl
theorem Rw.wf_mono {r : Rw} {l l' : List (Option Int)} (h : r.wf l) (hl : l.length ≤ l'.length) : r.wf l' := by
  cases r <;> simp only [Rw.wf] at h ⊢ <;> omega
theorem Step.inv {n' : Int} {rws' : List Rw} {lbs' : List (Option Int)} (s : Step n rws lbs n' rws' lbs') (hp : ∀ r ∈ rws, r.plain) (hw : ∀ r ∈ rws, r.wf lbs) :
    n ≤ n' ∧ n' ≤ n + 2 ∧ rws'.length ≤ rws.length + 2 ∧ lbs'.length ≤ lbs.length + 1 ∧ (∀ r ∈ rws', r.plain) ∧ ∀ r ∈ rws', r.wf lbs' := by
  have one : ∀ {r0 : Rw} {rs : List Rw} {l : List (Option Int)}, (∀ r ∈ rs, r.plain) → (∀ r ∈ rs, r.wf l) → r0.plain → r0.wf l → (∀ r ∈ rs ++ [r0], r.plain) ∧ ∀ r ∈ rs ++ [r0], r.wf l := fun h1 h2 h3 h4 =>
    ⟨fun r hr => by
      rcases List.mem_append.mp hr with q | q
      · exact h1 r q
      · rw [List.mem_singleton.mp q]; exact h3,
     fun r hr => by
      rcases List.mem_append.mp hr with q | q
      · exact h2 r q
      · rw [List.mem_singleton.mp q]; exact h4⟩
  cases s with
  | fresh => exact ⟨by omega, by omega, by omega, by omega, hp, hw⟩
  | label => exact ⟨by omega, by omega, by omega, by simp, hp, fun r hr => Rw.wf_mono (hw r hr) (by simp)⟩
  | mark h => exact ⟨by omega, by omega, by omega, by simp, hp, fun r hr => Rw.wf_mono (hw r hr) (by simp)⟩
  | const =>
    obtain ⟨h1, h2⟩ := one hp hw (r0 := .const n (.tup [.str "bool", .bool true])) (by simp only [Rw.plain]; decide +kernel) trivial
    exact ⟨by omega, by omega, by simp, by omega, h1, h2⟩
  | move =>
    obtain ⟨h1, h2⟩ := one hp hw (r0 := .move n _) trivial trivial
    exact ⟨by omega, by omega, by simp, by omega, h1, h2⟩
  | call1 =>
    obtain ⟨h1, h2⟩ := one hp hw (r0 := .const n (.tup [.str "builtin", .str "tuple"])) (by simp only [Rw.plain]; decide +kernel) trivial
    obtain ⟨h3, h4⟩ := one h1 h2 (r0 := .call (n + 1) n [.int _, .int _]) (by simp only [Rw.plain]; exact ⟨rfl, rfl⟩) trivial
    exact ⟨by omega, by omega, by simp, by omega, h3, h4⟩
  | call2 =>
    obtain ⟨h1, h2⟩ := one hp hw (r0 := .const n (.tup [.str "fun", .str "getindex"])) (by simp only [Rw.plain]; decide +kernel) trivial
    obtain ⟨h3, h4⟩ := one h1 h2 (r0 := .call (n + 1) n [.int _, .int _]) (by simp only [Rw.plain]; exact ⟨rfl, rfl⟩) trivial
    exact ⟨by omega, by omega, by simp, by omega, h3, h4⟩
  | goto h0 h1 =>
    obtain ⟨h3, h4⟩ := one hp hw (r0 := .goto _) trivial ⟨h0, h1⟩
    exact ⟨by omega, by omega, by simp, by omega, h3, h4⟩
  | «unless» h0 h1 =>
    obtain ⟨h3, h4⟩ := one hp hw (r0 := .unless _ _) trivial ⟨h0, h1⟩
    exact ⟨by omega, by omega, by simp, by omega, h3, h4⟩
  | ret =>
    obtain ⟨h3, h4⟩ := one hp hw (r0 := .ret _) trivial trivial
    exact ⟨by omega, by omega, by simp, by omega, h3, h4⟩
  | rethrow =>
    obtain ⟨h3, h4⟩ := one hp hw (r0 := .rethrow) trivial trivial
    exact ⟨by omega, by omega, by simp, by omega, h3, h4⟩
  | setg =>
    obtain ⟨h3, h4⟩ := one hp hw (r0 := .setg _) trivial trivial
    exact ⟨by omega, by omega, by simp, by omega, h3, h4⟩
noncomputable def wrFor : Stmt := (dBody (atTop 25)).getD 2 noStmt
noncomputable def wrBody : List Stmt := forB wrFor
theorem wrFor_is : ∃ p0 p1 p2 p3 p4 p5 p6 p7 p8 k1 k2 i1, wrFor = .For (.Name "turn" p0) (.Call (.Name "range" p1) [.BinOp (.Constant (.int 2) k1 p2) .Add (.Call (.Name "_law_tap" p3) [.Name "keg" p4, .Constant (.int 17) k2 p5] [] p6) p7] [] i1) wrBody [] p8 := ⟨_, _, _, _, _, _, _, _, _, _, _, _, rfl⟩
theorem wr_turn (hn : 0 < n) (hn2 : n < 90000) (hzr : rws.length < 90000) (hzl : lbs.length < 90000) (hpl : ∀ r ∈ rws, r.plain) (hwf : ∀ r ∈ rws, r.wf lbs) :
    ∃ a' b' n' rws' lbs' g', Step n rws lbs n' rws' lbs' ∧ Kpg g g' ∧ Sx G cxR (mRt ar t) (SR a b ar n rws lbs g) wrBody .next (mRt ar t) (SR a' b' ar n' rws' lbs' g') := by
  obtain ⟨a', b', n', rws', lbs', g', s, kq, hdeed⟩ := cl_deed (G := G) (x0 := .tab none) (x2 := .cell (some (.loc 8))) (a := a) (b := b) (ar := ar) (rws := rws) (lbs := lbs) (g := g) hn (by kwd_inv) (by kwd_inv) (by kwd_inv)
  obtain ⟨i1, i2, i3, i4, i5, i6⟩ := s.inv hpl hwf
  obtain ⟨g1, hio⟩ := cw_is_open (G := G) (σ := SR a' b' ar n' rws' lbs' g') (iw := 4) (d := 3) (r := 5) (l := 6) (y := 7) rfl rfl rfl rfl (by simp; omega) (pls_rows i5) pls_lbs (rows_ok rws')
  obtain ⟨g2, hlo⟩ := cl_lopen (G := G) (σ := SR a' b' ar n' rws' lbs' (g' ++ g1)) (i := 8) (r := 9) (l := 10) rfl rfl rfl (by simp; omega) (pls_rows i5) pls_lbs (rows_ok rws')
  refine ⟨a', b', n', rws', lbs', (g' ++ g1) ++ g2, s, (kq.trans (kpg_app kpg_refl)).trans (kpg_app kpg_refl), ?_⟩
  change Cl G 1 (.ref 243) [.loc 4] (SR a' b' ar n' rws' lbs' g') (.bool (opR rws' lbs')) (SR a' b' ar n' rws' lbs' (g' ++ g1)) at hio
  change Cl G 1 (.ref 311) [.loc 8] (SR a' b' ar n' rws' lbs' (g' ++ g1)) (.bool (opR rws' lbs')) (SR a' b' ar n' rws' lbs' ((g' ++ g1) ++ g2)) at hlo
  generalize opR rws' lbs' = o at hio hlo
  refine' sx_next ?xa ?xb
  case xa =>
    refine' s_if_F0 ?na ?nb
    case na =>
      refine' tt_bop ?oa
      case oa =>
        refine' at_or_F ?ob ?oc ?od
        case ob => kln_le
        case oc => rfl
        case od =>
          refine' at_or_F ?oe ?of ?og
          case oe => kln_le
          case of => cases o <;> rfl
          case og =>
            refine' at_or_F ?oh ?oi ?oj
            case oh => kln_le
            case oi => simp
            case oj => exact at_or_nil
    case nb => rfl
  case xb => exact sx_nil
end
end SC14
section SC15
local macro_rules | `(tactic| ktu_offI) => `(tactic|
  first
    | with_reducible refine' cl_tap ?z0 ?z1 ?z2
      case z0 => ktu_offL
      case z1 => ktu_offL
      case z2 => ktu_offL
    | with_reducible refine' cl_Writer
      )

variable {G : Gl} {σ : List AO}
section
variable {a b ar n t : Int} {rws : List Rw} {lbs : List (Option Int)} {g : List AO}
structure Iv (ar n : Int) (rws : List Rw) (lbs : List (Option Int)) (t : Nat) : Prop where
  n0 : 0 < n
  n1 : n ≤ ar + 2 * t
  rz : rws.length ≤ 2 * t
  lz : lbs.length ≤ t
  pl : ∀ r ∈ rws, r.plain
  wf : ∀ r ∈ rws, r.wf lbs
theorem wr_loop {p0 : Pos} (har : ar ≤ 4) : ∀ (k : Nat) (t : Nat) (y : Int) (m : List (PySem.Str × AV)) (a b n : Int) (rws : List Rw) (lbs : List (Option Int)) (g : List AO), g[1]? = some (.rit y k) → t + k ≤ 18 → (∀ v : Int, put "turn" (.int v) m = mRt ar v) → (k = 0 → ∃ v : Int, m = mRt ar v) → Iv ar n rws lbs t →
    ∃ a' b' n' rws' lbs' g' v, Fo G cxR (.Name "turn" p0) (.loc 12) wrBody m (SR a b ar n rws lbs g) .next (mRt ar v) (SR a' b' ar n' rws' lbs' g') ∧ Iv ar n' rws' lbs' 18
  | 0, t, y, m, a, b, n, rws, lbs, g, hg, ht, hm, hm0, I => by
    obtain ⟨v, rfl⟩ := hm0 rfl
    refine ⟨a, b, n, rws, lbs, g.set 1 .dead, v, .done (nd_range (σ := SR a b ar n rws lbs g) (i := 12) (y := y) (k := 0) hg (by kwd_inv)), ?_⟩
    exact ⟨I.n0, by have := I.n1; omega, by have := I.rz; omega, by have := I.lz; omega, I.pl, I.wf⟩
  | k + 1, t, y, m, a, b, n, rws, lbs, g, hg, ht, hm, hm0, I => by
    obtain ⟨n0, n1, rz, lz, pl, wf⟩ := I
    have hd : Dr G cxR m (SR a b ar n rws lbs g) (.Name "turn" p0) (.loc 12) (mRt ar y) (SR a b ar n rws lbs (g.set 1 (.rit (y + 1) k))) :=
      dr_range (σ := SR a b ar n rws lbs g) (i := 12) (y := y) (k := (k + 1 : Nat)) hg (by kwd_inv) (as_name (by
        have e : ((k + 1 : Nat) : Int) - 1 = (k : Int) := by omega
        rw [e]
        refine sn_put rfl ?_ (hm y)
        kernel_rfl!)) (by intro _ _; rfl)
    have hg1 : (g.set 1 (.rit (y + 1) k))[1]? = some (.rit (y + 1) k) := at_set_eq hg
    obtain ⟨a1, b1, n1', rws1, lbs1, g1, s, kq, hb⟩ := wr_turn (G := G) (a := a) (b := b) (ar := ar) (t := y) (n := n) (rws := rws) (lbs := lbs) (g := g.set 1 (.rit (y + 1) k)) n0 (by kwd_inv) (by kwd_inv) (by kwd_inv) pl wf
    obtain ⟨i1, i2, i3, i4, i5, i6⟩ := s.inv pl wf
    obtain ⟨a', b', n', rws', lbs', g', v, h, I'⟩ := wr_loop har k (t + 1) (y + 1) (mRt ar y) a1 b1 n1' rws1 lbs1 g1 (kq _ _ hg1) (by kwd_inv) (fun v => by kwd_less) (fun _ => ⟨y, rfl⟩) ⟨by omega, by omega, by omega, by omega, i5, i6⟩
    exact ⟨a', b', n', rws', lbs', g', v, .turn hd hb h, I'⟩
theorem wr_2 (h1 : 1 ≤ ar) (h4 : ar ≤ 4) : ∃ a' b' n' rws' lbs' g' v, S1 G cxR (mR ar) (SR a b ar ar [] [] []) ((dBody (atTop 25)).getD 2 noStmt) .next (mRt ar v) (SR a' b' ar n' rws' lbs' g') ∧ Iv ar n' rws' lbs' 18 := by
  have hb := tapR_bounds a b (n := 17) (by decide)
  obtain ⟨p0, p1, p2, p3, p4, p5, p6, p7, p8, k1, k2, i1, hw⟩ := wrFor_is
  have hN : (2 + tapR a b 17) = (((2 + tapR a b 17).toNat : Nat) : Int) := by omega
  obtain ⟨a', b', n', rws', lbs', g', v, h, I⟩ := wr_loop (G := G) (p0 := p0) h4 (2 + tapR a b 17).toNat 0 0 (mR ar) (tapA a 17) (tapB a b) ar [] [] [.rng (2 + tapR a b 17), .rit 0 (2 + tapR a b 17)] (by rw [← hN]; rfl) (by kwd_inv) (fun v => by rfl) (fun q => by omega) ⟨by omega, by omega, by simp, by simp, by simp, by simp⟩
  refine ⟨a', b', n', rws', lbs', g', v, ?_, I⟩
  show S1 G cxR (mR ar) (SR a b ar ar [] [] []) wrFor .next (mRt ar v) _
  rw [hw]
  refine' s_for ?fa ?fb ?fc ?fd
  case fa => kpt_turns
  case fb => exact pi_range (by krn_off) (by kwd_inv) (by kwd_inv) rfl
  case fc => exact h
  case fd => intro _ _; rfl
end
/-! a comprehension over a list that changes nothing -/
section
variable {c : Cx} {m : List (PySem.Str × AV)} {σ0 : List AO} {elt : Expr} {ifs : List Expr} {scope : Scope} {cs : List (PySem.Str × Nat)} {x : PySem.Str} {q : Pos} {j p : Nat}
structure LT (σ σ0 : List AO) (x : PySem.Str) (j p k : Nat) (acc : List AV) : Prop where
  fr : ∀ i y, i < p → σ0[i]? = some y → σ[i]? = some y
  lit : σ[p]? = some (.lit j k)
  lst : σ[p + 1]? = some (.list acc)
  ns : ∃ mb, σ[p + 2]? = some (.ns mb) ∧ ∀ v, put x v mb = [(x, v)]
theorem lp_pure {α : Type} {xs : List α} {av : α → AV} {f : α → Option AV} (hx : (relS scope (scopeOf c)).names.lookup x = some .local) (hj : σ0[j]? = some (.list (xs.map av))) (hjp : j < p)
    (hstep : ∀ v ∈ xs, ∀ σ, (∀ i y, i < p → σ0[i]? = some y → σ[i]? = some y) → σ[p + 2]? = some (.ns [(x, av v)]) →
      (f v = none → ∃ g, Ts G (c.into scope (p + 2) cs) m σ ifs false (σ ++ g)) ∧ ∀ u, f v = some u → ∃ g g', Ts G (c.into scope (p + 2) cs) m σ ifs true (σ ++ g) ∧ Ev G (c.into scope (p + 2) cs) m (σ ++ g) elt u (σ ++ g ++ g')) :
    ∀ (rest : List α) (k : Nat) (σ : List AO) (acc : List AV), xs.drop k = rest → LT σ σ0 x j p k acc → acc.length + rest.length ≤ sizeLine →
    ∃ σ', Lp G (c.into scope (p + 2) cs) m elt (.Name x q) ifs (.loc p) (p + 1) σ σ' ∧ (∀ i y, i < p → σ0[i]? = some y → σ'[i]? = some y) ∧ σ'[p + 1]? = some (.list (acc ++ rest.filterMap f)) ∧ ∃ mb, σ'[p + 2]? = some (.ns mb)
  | [], k, σ, acc, hd, H, _ => by
    have hk : xs[k]? = none := by
      rw [List.getElem?_eq_none_iff]
      have : (xs.drop k).length = 0 := by rw [hd]; rfl
      simp at this; omega
    obtain ⟨mb, hn, _⟩ := H.ns
    refine ⟨_, .done (nd_list H.lit (H.fr j _ hjp hj) (by simp [hk])), fun i y hi e => at_set_ne (by kwd_inv) (H.fr i y hi e), ?_, ⟨mb, at_set_ne (by kwd_inv) hn⟩⟩
    rw [List.filterMap_nil, List.append_nil]
    exact at_set_ne (by kwd_inv) H.lst
  | v :: rest, k, σ, acc, hd, H, hsz => by
    have hk : xs[k]? = some v := by rw [← List.head?_drop, hd]; rfl
    have hv : v ∈ xs := List.mem_of_getElem? hk
    have hd' : xs.drop (k + 1) = rest := by rw [← List.tail_drop, hd]; rfl
    obtain ⟨mb, hn, hp⟩ := H.ns
    have hne : (σ.set p (.lit j (k + 1)))[p + 2]? = some (.ns mb) := at_set_ne (by kwd_inv) hn
    have hns : ((σ.set p (.lit j (k + 1))).set (p + 2) (.ns [(x, av v)]))[p + 2]? = some (.ns [(x, av v)]) := at_set_eq hne
    have fr : ∀ i y, i < p → σ0[i]? = some y → ((σ.set p (.lit j (k + 1))).set (p + 2) (.ns [(x, av v)]))[i]? = some y := fun i y hi e => at_set_ne (by kwd_inv) (at_set_ne (by kwd_inv) (H.fr i y hi e))
    have hdr : Dr G (c.into scope (p + 2) cs) m σ (.Name x q) (.loc p) m ((σ.set p (.lit j (k + 1))).set (p + 2) (.ns [(x, av v)])) :=
      dr_list H.lit (H.fr j _ hjp hj) (v := av v) (by simp [hk]) (as_name (sn_blockI hx hne (hp (av v)))) (by intro _ _; rfl)
    have H1 : LT ((σ.set p (.lit j (k + 1))).set (p + 2) (.ns [(x, av v)])) σ0 x j p (k + 1) acc :=
      ⟨fr, at_set_ne (by kwd_inv) (at_set_eq H.lit), at_set_ne (by kwd_inv) (at_set_ne (by kwd_inv) H.lst), ⟨_, hns, fun u => if_pos rfl⟩⟩
    have app : ∀ {τ g : List AO} {i : Nat} {y : AO}, τ[i]? = some y → (τ ++ g)[i]? = some y := fun {τ g i y} e => by
      rw [List.getElem?_append_left (List.getElem?_eq_some_iff.mp e).1]; exact e
    obtain ⟨hF, hT⟩ := hstep v hv _ fr hns
    cases hf : f v with
    | none =>
      obtain ⟨g, h1⟩ := hF hf
      have H2 : LT (((σ.set p (.lit j (k + 1))).set (p + 2) (.ns [(x, av v)])) ++ g) σ0 x j p (k + 1) acc := ⟨fun i y hi e => app (fr i y hi e), app H1.lit, app H1.lst, by obtain ⟨mb, a, b⟩ := H1.ns; exact ⟨mb, app a, b⟩⟩
      obtain ⟨σ', h3, f3, l3, n3⟩ := lp_pure hx hj hjp hstep rest (k + 1) _ acc hd' H2 (by simp at hsz ⊢; omega)
      exact ⟨σ', .skip hdr h1 h3, f3, by rw [l3]; simp [hf], n3⟩
    | some u =>
      obtain ⟨g, g', h1, h2⟩ := hT u hf
      have l2 := app (g := g') (app (g := g) H1.lst)
      have H2 : LT ((((σ.set p (.lit j (k + 1))).set (p + 2) (.ns [(x, av v)])) ++ g ++ g').set (p + 1) (.list (acc ++ [u]))) σ0 x j p (k + 1) (acc ++ [u]) :=
        ⟨fun i y hi e => at_set_ne (by kwd_inv) (app (app (fr i y hi e))), at_set_ne (by kwd_inv) (app (app H1.lit)), at_set_eq l2, by obtain ⟨mb, a, b⟩ := H1.ns; exact ⟨mb, at_set_ne (by kwd_inv) (app (app a)), b⟩⟩
      obtain ⟨σ', h3, f3, l3, n3⟩ := lp_pure hx hj hjp hstep rest (k + 1) _ _ hd' H2 (by simp at hsz ⊢; omega)
      exact ⟨σ', .keep hdr h1 h2 l2 (by simp at hsz; omega) h3, f3, by rw [l3]; simp [hf], n3⟩
end
end SC15
section SC16
local macro_rules | `(tactic| ktu_offI) => `(tactic|
  first
    | with_reducible refine' cl_constant ?z0 ?z1 ?z2 ?z3
      case z0 => ktu_offL
      case z1 => ktu_offL
      case z2 => ktu_offL
      case z3 => ktu_offL)

/-! rows that go to a label -/
noncomputable def Rw.isGo : Rw → Bool
  | .goto _ => true | .unless _ _ => true | _ => false
noncomputable def Rw.lab : Rw → Int
  | .goto l => l | .unless _ l => l | _ => 0
section
variable {G : Gl} {c : Cx} {m : List (PySem.Str × AV)} {σ σ0 : List AO} {a b ar n v : Int} {rws rws2 : List Rw} {lbs : List (Option Int)} {g : List AO}
theorem tt_go {r : Rw} {p1 p2 p3 p4 p5 p6 p7 : Pos} (h : Ev G c m σ (.Name "row" p1) r.av σ) :
    Tt G c m σ (.Compare (.Subscript (.Name "row" p1) (.Constant (.int 0) 0 p2) p3) [.In] [.List [.Constant (.str "goto") 0 p4, .Constant (.str "unless") 0 p5] p6] p7) r.isGo (σ ++ [.list [.str "goto", .str "unless"]]) := by
  rw [Rw.av_eq] at h
  obtain ⟨s1, s2, s3, s4, s5, s6, s7, s8, s9⟩ := str_lits
  refine' tt_cmp (cm_of (ev_sub h ev_int ?a) ?b ?c) ?d
  case a => exact it_tup0 (by intro _ _; rfl)
  case b => kpt_turns
  case c =>
    refine' op_ind (d := pyd (.str r.nm)) (xs := pyds [.str "goto", .str "unless"]) ?e ?f ?g
    case e =>
      refine rd_val ?_
      cases r <;> (simp only [pl, Rw.nm]; assumption)
    case f =>
      refine rd_list (at_push rfl) ?_
      simp only [pls, pl, s4, s5, Bool.and_self]
    case g => cases r <;> kernel_rfl!
  case d => with_unfolding_all rfl
theorem seqIx {k : Nat} (h : 0 < k) : seqIndex? (-1) k = some (k - 1) := by
  unfold seqIndex?
  have h1 : ¬ (0 ≤ (-1 : Int)) := by decide
  simp only [h1, if_false]
  split <;> simp_all <;> omega
theorem ev_lastOf {r : Rw} {p1 p2 p3 p4 : Pos} (h : Ev G c m σ (.Name "row" p1) r.av σ) (hr : r.isGo = true) :
    Ev G c m σ (.Subscript (.Name "row" p1) (.UnaryOp .USub (.Constant (.int 1) 0 p2) p3) p4) (.int r.lab) σ := by
  refine ev_sub h (ev_un ev_int op_neg) ?_
  cases r with
  | goto l => exact it_tup (j := 1) (by rw [seqIx (by simp)]; rfl) rfl (by decide) (by decide) (by intro _ _; rfl)
  | «unless» s l => exact it_tup (j := 2) (by rw [seqIx (by simp)]; rfl) rfl (by decide) (by decide) (by intro _ _; rfl)
  | _ => cases hr
end
section
variable {G : Gl} {a b ar n v : Int} {rws : List Rw} {lbs : List (Option Int)} {g : List AO}
theorem wr_3 (hpl : ∀ r ∈ rws, r.plain) : S1 G cxR (mRt ar v) (SR a b ar n rws lbs g) ((dBody (atTop 25)).getD 3 noStmt) .next (mRt ar v) (SR a b ar n rws lbs g) := by
  have hp : pls 9 (rws.map Rw.av) = true := pls_rows hpl
  refine' s_if_F0 ?a ?b
  case a => kln_le
  case b =>
    simp only [PyData.eqv, eqv_refls hp]
    rfl
noncomputable abbrev SQ (a b ar n n2 : Int) (rws rws2 : List Rw) (lbs : List (Option Int)) (g : List AO) : List AO :=
  .tab none :: .list [.int a, .int b] :: .cell (some (.loc 8)) :: wO ar n 5 6 7 :: .inst 260 3 :: .list (rws.map Rw.av) :: .list (lbs.map lbv) :: .list [] :: ownO n2 9 10 :: .list (rws2.map Rw.av) :: .list (lbs.map lbv) :: g
theorem wr_4 (hpl : ∀ r ∈ rws, r.plain) (hz : rws.length ≤ 1000) : ∃ g', S1 G cxR (mRt ar v) (SR a b ar n rws lbs g) ((dBody (atTop 25)).getD 4 noStmt) .next (mRt ar v) (SQ a b ar n (clN (opR rws lbs) n) rws (clR (opR rws lbs) n rws) lbs g') := by
  obtain ⟨g2, hlo⟩ := cl_lopen (G := G) (σ := SR a b ar n rws lbs g) (i := 8) (r := 9) (l := 10) rfl rfl rfl (by simp; omega) (pls_rows hpl) pls_lbs (rows_ok rws)
  refine ⟨g ++ g2, ?_⟩
  change Cl G 1 (.ref 311) [.loc 8] (SR a b ar n rws lbs g) (.bool (opR rws lbs)) (SR a b ar n rws lbs (g ++ g2)) at hlo
  generalize opR rws lbs = o at hlo
  cases o with
  | false =>
    refine' s1_to (m₁ := mRt ar v) ?k1 ?k2 ?k3
    case k1 =>
      refine' s_if_F0 ?a ?b
      case a => kln_le
      case b => rfl
    case k2 => rfl
    case k3 => rfl
  | true =>
    refine' s1_to (m₁ := mRt ar v) ?k1 ?k2 ?k3
    case k1 =>
      refine' s_if_T ?a ?b ?c
      case a => kln_le
      case b => rfl
      case c =>
        refine' sx_next ?d ?e
        case d => kst_p
        case e => exact sx_nil
    case k2 => rfl
    case k3 => simp [clR, clN, Rw.av]
end
/-! the law's own lists behind the deeds -/
structure Lw (σ : List AO) (a b ar n n2 : Int) (rws rws2 : List Rw) (lbs : List (Option Int)) : Prop where
  w : Wr σ ar n rws lbs
  keg : σ[1]? = some (.list [.int a, .int b])
  cell : σ[2]? = some (.cell (some (.loc 8)))
  own : σ[8]? = some (ownO n2 9 10)
  orows : σ[9]? = some (.list (rws2.map Rw.av))
  olbs : σ[10]? = some (.list (lbs.map lbv))
section
variable {G : Gl} {m : List (PySem.Str × AV)} {σ : List AO} {a b ar n n2 v : Int} {rws rws2 : List Rw} {lbs : List (Option Int)} {g : List AO}
theorem lw_SQ : Lw (SQ a b ar n n2 rws rws2 lbs g) a b ar n n2 rws rws2 lbs := ⟨⟨⟨none, rfl, fun j q => by cases q⟩, rfl, rfl, rfl, rfl⟩, rfl, rfl, rfl, rfl, rfl⟩
/-- the law's own lists, the writer aside -/
structure Lo (σ : List AO) (a b n2 : Int) (rws2 : List Rw) (lbs : List (Option Int)) : Prop where
  keg : σ[1]? = some (.list [.int a, .int b])
  cell : σ[2]? = some (.cell (some (.loc 8)))
  own : σ[8]? = some (ownO n2 9 10)
  orows : σ[9]? = some (.list (rws2.map Rw.av))
  olbs : σ[10]? = some (.list (lbs.map lbv))
theorem Lw.lo (L : Lw σ a b ar n n2 rws rws2 lbs) : Lo σ a b n2 rws2 lbs := ⟨L.keg, L.cell, L.own, L.orows, L.olbs⟩
theorem Lo.on {σ' : List AO} (L : Lo σ a b n2 rws2 lbs) (h : ∀ (i : Nat) (x : AO), i ≠ 0 → i < σ.length → σ[i]? = some x → σ'[i]? = some x) : Lo σ' a b n2 rws2 lbs := by
  have l10 := (List.getElem?_eq_some_iff.mp L.olbs).1
  exact ⟨h _ _ (by decide) (by kwd_inv) L.keg, h _ _ (by decide) (by kwd_inv) L.cell, h _ _ (by decide) (by kwd_inv) L.own, h _ _ (by decide) (by kwd_inv) L.orows, h _ _ (by decide) (by kwd_inv) L.olbs⟩
/-! the labels gone to -/
noncomputable def gStmt : Stmt := (dBody (atTop 25)).getD 5 noStmt
noncomputable def gScope : Scope := lcS (asgE gStmt)
theorem gStmt_is : ∃ e q0 q1, gStmt = .Assign [.Name "goals" q0] e q1 ∧ (∀ F, swapsWith e (some (.Name "goals" q0)) q1.line (ev cxR F) = pure true) ∧ ∃ q2 q3 q4 q5 q6 p1 p2 p3 p4 r2 r3 r4 r5 r6 r7 r8,
    e = .ListComp (.Subscript (.Name "row" p1) (.UnaryOp .USub (.Constant (.int 1) 0 p2) p3) p4)
      [⟨.Name "row" q2, .Subscript (.Name "own" q3) (.Constant (.str "rows") 0 q4) q5, [.Compare (.Subscript (.Name "row" r7) (.Constant (.int 0) 0 r2) r3) [.In] [.List [.Constant (.str "goto") 0 r4, .Constant (.str "unless") 0 r5] r6] r8], 0⟩] gScope q6 := by
  exact ⟨_, _, _, rfl, by intro F; kernel_rfl!, _, _, _, _, _, _, _, _, _, _, _, _, _, _, _, _, rfl⟩
theorem ev_orows {q3 q4 q5 : Pos} (L : Lo σ a b n2 rws2 lbs) : Ev G cxR m σ (.Subscript (.Name "own" q3) (.Constant (.str "rows") 0 q4) q5) (.loc 9) σ := by
  have h1 := L.cell
  have h2 := L.own
  kpt_turns
theorem lt_start {x : PySem.Str} {j : Nat} : LT (σ ++ [AO.lit j 0] ++ [.list []] ++ [.ns []]) σ x j σ.length 0 [] :=
  ⟨fun i y _ e => at_old (at_old (at_old e)), at_old (at_old (at_push rfl)), at_old (at_push (by simp)), ⟨[], at_push (by simp), fun v => rfl⟩⟩
noncomputable abbrev mRg (ar v : Int) (i : Nat) : List (PySem.Str × AV) := [("keg", .loc 1), ("arity", .int ar), ("writer", .loc 4), ("turn", .int v), ("goals", .loc i)]
noncomputable def glist (rws2 : List Rw) : List Int := rws2.filterMap fun r => if r.isGo then some r.lab else none
theorem wr_5 (L : Lo σ a b n2 rws2 lbs) (hz : rws2.length ≤ 1000) :
    ∃ σ', S1 G cxR (mRt ar v) σ gStmt .next (mRg ar v (σ.length + 1)) σ' ∧ (∀ i x, i < σ.length → σ[i]? = some x → σ'[i]? = some x) ∧ σ'[σ.length + 1]? = some (.list ((glist rws2).map .int)) := by
  obtain ⟨e, q0, q1, hk, hsw, q2, q3, q4, q5, q6, p1, p2, p3, p4, r2, r3, r4, r5, r6, r7, r8, rfl⟩ := gStmt_is
  rw [hk]
  have l9 := (List.getElem?_eq_some_iff.mp L.orows).1
  have hx : (relS gScope (scopeOf cxR)).names.lookup ("row" : PySem.Str) = some .local := by kernel_rfl!
  obtain ⟨σ', h3, f3, l3, mb, n3⟩ := lp_pure (G := G) (c := cxR) (m := mRt ar v) (σ0 := σ) (elt := .Subscript (.Name "row" p1) (.UnaryOp .USub (.Constant (.int 1) 0 p2) p3) p4)
    (ifs := [.Compare (.Subscript (.Name "row" r7) (.Constant (.int 0) 0 r2) r3) [.In] [.List [.Constant (.str "goto") 0 r4, .Constant (.str "unless") 0 r5] r6] r8])
    (scope := gScope) (cs := []) (x := "row") (q := q2) (j := 9) (p := σ.length) (xs := rws2) (av := Rw.av) (f := fun r => if r.isGo then some (.int r.lab) else none) hx L.orows l9
    (fun r hr τ fr hns => by
      have hrow : ∀ {τ' : List AO} {p : Pos}, τ'[σ.length + 2]? = some (.ns [("row", r.av)]) → Ev G (cxR.into gScope (σ.length + 2) []) (mRt ar v) τ' (.Name "row" p) r.av τ' := fun {τ' p} h => by
        refine ev_localI hx h ?_ (by decide +kernel)
        kwd_rel
      cases hg : r.isGo with
      | false => exact ⟨fun _ => ⟨_, ts_one (hg ▸ tt_go (hrow hns))⟩, fun u q => by cases q⟩
      | true =>
        refine ⟨fun q => (by cases q), fun u q => ?_⟩
        cases q
        exact ⟨_, [], ts_one (hg ▸ tt_go (hrow hns)), by rw [List.append_nil]; exact ev_lastOf (hrow (at_old hns)) hg⟩)
    rws2 0 _ [] rfl lt_start (by simp [sizeLine_eq]; omega)
  refine ⟨_, s_assign_comp (n := σ.length + 1) (cs := []) (mb := mb) (σ₃ := σ') (σ₄ := σ') ?_ ?_ ?_ ?_ (ev_orows L) (pi_list L.orows rfl) (by simp) (pi_lit (j := 9) (k := 0) (lt_start (x := "row")).lit) h3 ?_ n3 n3 hsw (by intro _ _; rfl), fun i x hi e => at_set_ne (by kwd_inv) (f3 i x hi e), at_set_ne (by kwd_inv) ?_⟩
  · kernel_rfl!
  · kernel_rfl!
  · kernel_rfl!
  · kernel_rfl!
  · refine sn_put rfl ?_ ?_
    · kernel_rfl!
    · kwd_less
  · rw [l3]
    simp only [glist, List.nil_append, List.map_filterMap]
    congr 2
    congr 1
    funext r
    cases r.isGo <;> rfl
/-! those that stand nowhere -/
noncomputable def nStmt : Stmt := (dBody (atTop 25)).getD 7 noStmt
noncomputable def nScope : Scope := lcS (cmpL (ifT nStmt))
noncomputable def nComp : Expr := cmpL (ifT nStmt)
theorem nStmt_is : ∃ q3 q4 q5 q6 q7 q8 q9, nStmt = .If (.Compare nComp [.NotEq] [.List [] q3] q4) [.Return (some (.Compare (.Name "code" q5) [.Is] [.Constant .none 0 q6] q7)) q8] [] q9 := ⟨_, _, _, _, _, _, _, rfl⟩
theorem nComp_is : ∃ q0 q1 q2 p1 p2 p3 p4 p5 p6 p7 p8, nComp = .ListComp (.Name "label" p1)
      [⟨.Name "label" q0, .Name "goals" q1, [.Compare (.Subscript (.Subscript (.Name "own" p2) (.Constant (.str "labels") 0 p3) p4) (.Name "label" p5) p6) [.Is] [.Constant .none 0 p7] p8], 0⟩] nScope q2 := ⟨_, _, _, _, _, _, _, _, _, _, _, rfl⟩
noncomputable def nlist (lbs : List (Option Int)) (ls : List Int) : List Int := ls.filter fun l => !((lbs[l.toNat]?).getD none).isSome
theorem ev_ncomp {i : Nat} (L : Lo σ a b n2 rws2 lbs) {ls : List Int} (hi : σ[i]? = some (.list (ls.map .int))) (hz : ls.length ≤ 1000) (hl : ∀ l ∈ ls, 0 ≤ l ∧ l < (lbs.length : Int)) (hz2 : lbs.length ≤ 1000) (hg : lk "goals" m = some (.loc i)) :
    ∃ j σ', Ev G cxR m σ nComp (.loc j) σ' ∧ (∀ i x, i < σ.length → σ[i]? = some x → σ'[i]? = some x) ∧ σ'[j]? = some (.list ((nlist lbs ls).map .int)) := by
  obtain ⟨q0, q1, q2, p1, p2, p3, p4, p5, p6, p7, p8, hk⟩ := nComp_is
  rw [hk]
  have li := (List.getElem?_eq_some_iff.mp hi).1
  have l10 := (List.getElem?_eq_some_iff.mp L.olbs).1
  have hx : (relS nScope (scopeOf cxR)).names.lookup ("label" : PySem.Str) = some .local := by kernel_rfl!
  obtain ⟨σ', h3, f3, l3, mb, n3⟩ := lp_pure (G := G) (c := cxR) (m := m) (σ0 := σ) (elt := .Name "label" p1)
    (ifs := [.Compare (.Subscript (.Subscript (.Name "own" p2) (.Constant (.str "labels") 0 p3) p4) (.Name "label" p5) p6) [.Is] [.Constant .none 0 p7] p8])
    (scope := nScope) (cs := [("own", 2)]) (x := "label") (q := q0) (j := i) (p := σ.length) (xs := ls) (av := AV.int) (f := fun l => if ((lbs[l.toNat]?).getD none).isSome then none else some (.int l)) hx hi li
    (fun l hl' τ fr hns => by
      have hlab : ∀ {τ' : List AO} {p : Pos}, τ'[σ.length + 2]? = some (.ns [("label", .int l)]) → Ev G (cxR.into nScope (σ.length + 2) [("own", 2)]) m τ' (.Name "label" p) (.int l) τ' := fun {τ' p} h => by
        refine ev_localI hx h ?_ (by decide +kernel)
        kwd_rel
      have h2 := fr 2 _ (by kwd_inv) L.cell
      have h8 := fr 8 _ (by kwd_inv) L.own
      have h10 := fr 10 _ (by kwd_inv) L.olbs
      obtain ⟨l0, l1⟩ := hl l hl'
      have hget : (lbs.map lbv)[l.toNat]? = some (lbv ((lbs[l.toNat]?).getD none)) := by
        rw [List.getElem?_map]
        have : l.toNat < lbs.length := by omega
        rw [List.getElem?_eq_getElem this]; rfl
      have hz3 : (lbs.map lbv).length < 2000 := by simp; omega
      have hev : Ev G (cxR.into nScope (σ.length + 2) [("own", 2)]) m τ (.Subscript (.Subscript (.Name "own" p2) (.Constant (.str "labels") 0 p3) p4) (.Name "label" p5) p6) (lbv ((lbs[l.toNat]?).getD none)) τ := by
        refine' ev_sub ?a (hlab hns) ?c
        case a => kpt_turns
        case c => exact it_list h10 l0 hget (by kwd_inv) (by intro _ _; rfl)
      cases ho : (lbs[l.toNat]?).getD none with
      | none =>
        rw [ho] at hev
        refine ⟨fun q => (by cases q), fun u q => ?_⟩
        cases q
        refine ⟨[], [], ts_one (tt_cmp (cm_of ?_ ev_none op_isN_none) (by with_unfolding_all rfl)), ?_⟩
        · rw [List.append_nil]; exact hev
        · rw [List.append_nil, List.append_nil]; exact hlab hns
      | some k =>
        rw [ho] at hev
        refine ⟨fun _ => ⟨[], ts_one (tt_cmp (cm_of ?_ ev_none (op_isN_int (i := k))) (by with_unfolding_all rfl))⟩, fun u q => (by cases q)⟩
        rw [List.append_nil]; exact hev)
    ls 0 _ [] rfl lt_start (by simp [sizeLine_eq]; omega)
  refine ⟨σ.length + 1, _, ev_comp (n := σ.length + 1) (cs := [("own", 2)]) (mb := mb) ?_ ?_ ?_ ?_ ?_ (pi_list hi rfl) (by simp) (pi_lit (j := i) (k := 0) (lt_start (x := "label")).lit) h3 n3 (by intro _ _; rfl), fun i x hi e => at_set_ne (by kwd_inv) (f3 i x hi e), at_set_ne (by kwd_inv) ?_⟩
  · kernel_rfl!
  · kernel_rfl!
  · kernel_rfl!
  · kernel_rfl!
  · kpt_turns
  · rw [l3]
    simp only [nlist, List.nil_append]
    congr 2
    have key : ∀ zs : List Int, (zs.filterMap fun l => if ((lbs[l.toNat]?).getD none).isSome then none else some (AV.int l)) = (zs.filter fun l => !((lbs[l.toNat]?).getD none).isSome).map .int := fun zs => by
      induction zs with
      | nil => rfl
      | cons z zs ih =>
        rw [List.filterMap_cons, List.filter_cons]
        cases ((lbs[z.toNat]?).getD none).isSome <;> simp [ih]
    exact key ls
end
end SC16
section SC17
local macro_rules | `(tactic| ktu_offI) => `(tactic|
  first
    | with_reducible refine' cl_constant ?z0 ?z1 ?z2 ?z3
      case z0 => ktu_offL
      case z1 => ktu_offL
      case z2 => ktu_offL
      case z3 => ktu_offL)

section
variable {G : Gl} {m : List (PySem.Str × AV)} {σ : List AO} {a b ar n n2 v : Int} {rws rws2 : List Rw} {lbs : List (Option Int)} {g : List AO}
noncomputable abbrev KpA (σ σ' : List AO) : Prop := ∀ (i : Nat) (x : AO), i < σ.length → σ[i]? = some x → σ'[i]? = some x
theorem pls_ints (ls : List Int) : pls 9 (ls.map AV.int) = true := by
  rw [pls_iff]
  intro v hv
  obtain ⟨l, _, rfl⟩ := List.mem_map.mp hv
  rfl
theorem wr_7t {i : Nat} (L : Lo σ a b n2 rws2 lbs) {ls : List Int} (hi : σ[i]? = some (.list (ls.map .int))) (hz : ls.length ≤ 1000) (hl : ∀ l ∈ ls, 0 ≤ l ∧ l < (lbs.length : Int)) (hz2 : lbs.length ≤ 1000) (hg : lk "goals" m = some (.loc i)) {q3 q4 : Pos} :
    ∃ σ', Tt G cxR m σ (.Compare nComp [.NotEq] [.List [] q3] q4) (!(nlist lbs ls).isEmpty) σ' ∧ KpA σ σ' := by
  obtain ⟨j, σ', h1, h2, h3⟩ := ev_ncomp (G := G) (m := m) L hi hz hl hz2 hg
  have hp : pls 9 ((nlist lbs ls).map AV.int) = true := pls_ints _
  refine ⟨σ' ++ [.list []], ?_, fun i x hi e => at_old (h2 i x hi e)⟩
  refine' tt_cmp (cm_of h1 ?a ?b) ?c
  case a => kpt_turns
  case b =>
    refine' op_ned (d := .list (pyds ((nlist lbs ls).map .int))) (d' := .list (pyds [])) ?d ?e ?f
    case d => exact rd_list (at_old h3) hp
    case e => exact rd_list (at_push rfl) rfl
    case f =>
      show (!PyData.eqvAll (pyds ((nlist lbs ls).map .int)) []) = !(nlist lbs ls).isEmpty
      rw [eqvAll_nil, pyds_map]
      simp
  case c => with_unfolding_all rfl
theorem wr_7F {i : Nat} (L : Lo σ a b n2 rws2 lbs) {ls : List Int} (hi : σ[i]? = some (.list (ls.map .int))) (hz : ls.length ≤ 1000) (hl : ∀ l ∈ ls, 0 ≤ l ∧ l < (lbs.length : Int)) (hz2 : lbs.length ≤ 1000) (hg : lk "goals" m = some (.loc i)) (he : nlist lbs ls = []) :
    ∃ σ', S1 G cxR m σ nStmt .next m σ' ∧ KpA σ σ' := by
  obtain ⟨q3, q4, q5, q6, q7, q8, q9, hk⟩ := nStmt_is
  rw [hk]
  obtain ⟨σ', h, k⟩ := wr_7t (G := G) (m := m) L hi hz hl hz2 hg (q3 := q3) (q4 := q4)
  exact ⟨σ', s_if_F0 h (by rw [he]; rfl), k⟩
theorem wr_7T {i : Nat} (L : Lo σ a b n2 rws2 lbs) {ls : List Int} (hi : σ[i]? = some (.list (ls.map .int))) (hz : ls.length ≤ 1000) (hl : ∀ l ∈ ls, 0 ≤ l ∧ l < (lbs.length : Int)) (hz2 : lbs.length ≤ 1000) (hg : lk "goals" m = some (.loc i)) (he : nlist lbs ls ≠ []) (hc : lk "code" m = some .none) :
    ∃ σ', S1 G cxR m σ nStmt (.ret (.bool true)) m σ' ∧ KpA σ σ' := by
  obtain ⟨q3, q4, q5, q6, q7, q8, q9, hk⟩ := nStmt_is
  rw [hk]
  obtain ⟨σ', h, k⟩ := wr_7t (G := G) (m := m) L hi hz hl hz2 hg (q3 := q3) (q4 := q4)
  refine ⟨σ', ?_, k⟩
  refine' s_if_T h ?a ?b
  case a =>
    cases hq : nlist lbs ls with
    | nil => exact absurd hq he
    | cons _ _ => rfl
  case b => kt_eqs
/-! what is due -/
noncomputable def dStmt : Stmt := (dBody (atTop 25)).getD 8 noStmt
noncomputable def dComp : Expr := asgE dStmt
noncomputable def dElt : Expr := lcE dComp
noncomputable def duScope : Scope := lcS dComp
theorem dStmt_is : ∃ q0 q1, dStmt = .Assign [.Name "due" q0] dComp q1 ∧ (∀ F, swapsWith dComp (some (.Name "due" q0)) q1.line (ev cxR F) = pure true) := ⟨_, _, rfl, by intro F; kernel_rfl!⟩
theorem dComp_is : ∃ q2 q3 q4 q5 q6, dComp = .ListComp dElt [⟨.Name "row" q2, .Subscript (.Name "own" q3) (.Constant (.str "rows") 0 q4) q5, [], 0⟩] duScope q6 := ⟨_, _, _, _, _, rfl⟩
theorem dElt_is : ∃ r1 r2 r3 r4 r5 r6 r7 p1 p2 p3 p4 p5 p6 p7 p8 p9 s1 s2 s3 s4 s5 s6 s7 s8, dElt = .IfExp (.Compare (.Subscript (.Name "row" r1) (.Constant (.int 0) 0 r2) r3) [.In] [.List [.Constant (.str "goto") 0 r4, .Constant (.str "unless") 0 r5] r6] r7)
      (.BinOp (.Subscript (.Name "row" p1) (.Slice none (some (.UnaryOp .USub (.Constant (.int 1) 0 p2) p3)) none p4) p5) .Add
        (.Tuple [.Subscript (.Subscript (.Name "own" p6) (.Constant (.str "labels") 0 p7) p8) (.Subscript (.Name "row" s1) (.UnaryOp .USub (.Constant (.int 1) 0 s2) s3) s4) p9] 0 s5) s6) (.Name "row" s7) s8 :=
  ⟨_, _, _, _, _, _, _, _, _, _, _, _, _, _, _, _, _, _, _, _, _, _, _, _, rfl⟩
theorem due_elt {r : Rw} {ns : Nat} {τ : List AO} (h2 : τ[2]? = some (.cell (some (.loc 8)))) (h8 : τ[8]? = some (ownO n2 9 10)) (h10 : τ[10]? = some (.list (lbs.map lbv))) (hns : τ[ns]? = some (.ns [("row", r.av)])) (hw : r.wf lbs) (hz2 : lbs.length ≤ 1000) :
    ∃ g, Ev G (cxR.into duScope ns [("own", 2)]) m τ dElt (r.turn lbs) (τ ++ g) := by
  obtain ⟨r1, r2, r3, r4, r5, r6, r7, p1, p2, p3, p4, p5, p6, p7, p8, p9, s1, s2, s3, s4, s5, s6, s7, s8, hk⟩ := dElt_is
  rw [hk]
  have hx : (relS duScope (scopeOf cxR)).names.lookup ("row" : PySem.Str) = some .local := by kernel_rfl!
  have hrow : ∀ {τ' : List AO} {p : Pos}, τ'[ns]? = some (.ns [("row", r.av)]) → Ev G (cxR.into duScope ns [("own", 2)]) m τ' (.Name "row" p) r.av τ' := fun {τ' p} h => by
    refine ev_localI hx h ?_ (by decide +kernel)
    kwd_rel
  have ht := tt_go (p1 := r1) (p2 := r2) (p3 := r3) (p4 := r4) (p5 := r5) (p6 := r6) (p7 := r7) (hrow hns)
  have hns' := at_old (x := AO.list [.str "goto", .str "unless"]) hns
  have h2' := at_old (x := AO.list [.str "goto", .str "unless"]) h2
  have h8' := at_old (x := AO.list [.str "goto", .str "unless"]) h8
  have h10' := at_old (x := AO.list [.str "goto", .str "unless"]) h10
  have hz3 : (lbs.map lbv).length < 2000 := by simp; omega
  have hlab : r.isGo = true → 0 ≤ r.lab ∧ r.lab < (lbs.length : Int) → Ev G (cxR.into duScope ns [("own", 2)]) m (τ ++ [.list [.str "goto", .str "unless"]]) (.Subscript (.Subscript (.Name "own" p6) (.Constant (.str "labels") 0 p7) p8) (.Subscript (.Name "row" s1) (.UnaryOp .USub (.Constant (.int 1) 0 s2) s3) s4) p9) (lbA lbs r.lab) (τ ++ [.list [.str "goto", .str "unless"]]) := fun hg hb => by
    have hget : (lbs.map lbv)[r.lab.toNat]? = some (lbA lbs r.lab) := by
      rw [List.getElem?_map]
      have : r.lab.toNat < lbs.length := by omega
      unfold lbA
      rw [List.getElem?_eq_getElem this]; rfl
    refine' ev_sub ?a (ev_lastOf (hrow hns') hg) ?c
    case a => kpt_turns
    case c => exact it_list h10' hb.1 hget (by kwd_inv) (by intro _ _; rfl)
  refine ⟨[.list [.str "goto", .str "unless"]], ?_⟩
  cases r with
  | goto l =>
    exact ev_if_T ht rfl (ev_bin (ev_sl_butLast (n := 1) (hrow hns') rfl (by decide) (by intro _ _; rfl)) (ev_tuple (evs_cons (hlab rfl hw) evs_nil (by intro _; rfl)) (Nat.le_of_ble_eq_true rfl)) (op_addT (by intro q; cases q) (by intro q; cases q) (by simp)))
  | «unless» s l =>
    exact ev_if_T ht rfl (ev_bin (ev_sl_butLast (n := 2) (hrow hns') rfl (by decide) (by intro _ _; rfl)) (ev_tuple (evs_cons (hlab rfl hw) evs_nil (by intro _; rfl)) (Nat.le_of_ble_eq_true rfl)) (op_addT (by intro q; cases q) (by intro q; cases q) (by simp)))
  | const _ _ => exact ev_if_F ht rfl (hrow hns')
  | move _ _ => exact ev_if_F ht rfl (hrow hns')
  | call _ _ _ => exact ev_if_F ht rfl (hrow hns')
  | ret _ => exact ev_if_F ht rfl (hrow hns')
  | rethrow => exact ev_if_F ht rfl (hrow hns')
  | setg _ => exact ev_if_F ht rfl (hrow hns')
theorem wr_8 {m' : List (PySem.Str × AV)} (L : Lo σ a b n2 rws2 lbs) (hz : rws2.length ≤ 1000) (hz2 : lbs.length ≤ 1000) (hwf : ∀ r ∈ rws2, r.wf lbs) (hm : put "due" (.loc (σ.length + 1)) m = m') :
    ∃ σ', S1 G cxR m σ dStmt .next m' σ' ∧ KpA σ σ' ∧ σ'[σ.length + 1]? = some (.list (rws2.map (Rw.turn lbs))) := by
  obtain ⟨q0, q1, hk, hsw⟩ := dStmt_is
  obtain ⟨q2, q3, q4, q5, q6, hc⟩ := dComp_is
  rw [hk, hc]
  rw [hc] at hsw
  have l10 := (List.getElem?_eq_some_iff.mp L.olbs).1
  have hx : (relS duScope (scopeOf cxR)).names.lookup ("row" : PySem.Str) = some .local := by kernel_rfl!
  obtain ⟨σ', h3, f3, l3, mb, n3⟩ := lp_pure (G := G) (c := cxR) (m := m) (σ0 := σ) (elt := dElt)
    (ifs := []) (scope := duScope) (cs := [("own", 2)]) (x := "row") (q := q2) (j := 9) (p := σ.length) (xs := rws2) (av := Rw.av) (f := fun r => some (r.turn lbs)) hx L.orows (by kwd_inv)
    (fun r hr τ fr hns => by
      refine ⟨fun q => (by cases q), fun u q => ?_⟩
      cases q
      obtain ⟨g, h⟩ := due_elt (G := G) (m := m) (fr 2 _ (by kwd_inv) L.cell) (fr 8 _ (by kwd_inv) L.own) (fr 10 _ (by kwd_inv) L.olbs) hns (hwf r hr) hz2
      refine ⟨[], g, ?_, ?_⟩
      · rw [List.append_nil]; exact ts_nil
      · rw [List.append_nil]; exact h)
    rws2 0 _ [] rfl lt_start (by simp [sizeLine_eq]; omega)
  refine ⟨_, s_assign_comp (n := σ.length + 1) (cs := [("own", 2)]) (mb := mb) (σ₃ := σ') (σ₄ := σ') ?_ ?_ ?_ ?_ (ev_orows L) (pi_list L.orows rfl) (by simp) (pi_lit (j := 9) (k := 0) (lt_start (x := "row")).lit) h3 ?_ n3 n3 hsw (by intro _ _; rfl), fun i x hi e => at_set_ne (by kwd_inv) (f3 i x hi e), at_set_ne (by kwd_inv) ?_⟩
  · kernel_rfl!
  · kernel_rfl!
  · kernel_rfl!
  · kernel_rfl!
  · refine sn_put rfl ?_ hm
    kernel_rfl!
  · rw [l3]
    simp
/-! the last comparisons -/
noncomputable abbrev mRd (ar v : Int) (ig ic id : Nat) : List (PySem.Str × AV) := [("keg", .loc 1), ("arity", .int ar), ("writer", .loc 4), ("turn", .int v), ("goals", .loc ig), ("code", .loc ic), ("due", .loc id)]
theorem turn_pl {r : Rw} (h : r.plain) : pl 8 (r.turn lbs) = true := by
  obtain ⟨s1, s2, s3, s4, s5, s6, s7, s8, s9⟩ := str_lits
  have hl : ∀ l, pl 7 (lbA lbs l) = true := fun l => by unfold lbA; cases (lbs[l.toNat]?).getD none <;> rfl
  cases r with
  | goto l => simp [Rw.turn, pl, pls, s4, hl]
  | «unless» s l => simp [Rw.turn, pl, pls, s5, hl]
  | const _ _ => exact Rw.pl_av7 h
  | move _ _ => exact Rw.pl_av7 h
  | call _ _ _ => exact Rw.pl_av7 h
  | ret _ => exact Rw.pl_av7 h
  | rethrow => exact Rw.pl_av7 h
  | setg _ => exact Rw.pl_av7 h
theorem wr_9 {ig ic id d : Nat} {rs : List AV} (L : Lo σ a b n2 rws2 lbs) (hi : σ[ic]? = some (.inst 98 d)) (hd : σ[d]? = some (codeO ar n2 rs)) (hu : σ[id]? = some (.list rs)) (hz : rs.length ≤ 1000) (hp : pls 8 rs = true) :
    S1 G cxR (mRd ar v ig ic id) σ ((dBody (atTop 25)).getD 9 noStmt) .next (mRd ar v ig ic id) σ := by
  have h1 := L.cell
  have h2 := L.own
  have hp' : pl 9 (.tup rs) = true := hp
  have hz' : rs.length ≤ sizeLine := by rw [sizeLine_eq]; omega
  refine' s_if_F0 ?na ?nb
  case na =>
    refine' tt_bop ?oa
    case oa =>
      refine' at_or_F ?ob ?oc ?od
      case ob => kln_le
      case oc => rfl
      case od =>
        refine' at_or_F ?oe ?of ?og
        case oe => kln_le
        case of =>
          have e := eqv_refl hp'
          simp only [pyd] at e ⊢
          rw [e]; rfl
        case og =>
          refine' at_or_F ?oh ?oi ?oj
          case oh =>
            refine' tt_cmp (cm_of ?ua ?ub ?uc) ?ud
            case ua => kpt_turns
            case ub => kpt_turns
            case uc => exact op_ned (d := pyd (.tup [.str "f", .int ar, .int n2])) (d' := pyd (.tup [.str "f", .int ar, .int n2])) (rd_val (by kernel_rfl!)) (rd_val (by kernel_rfl!)) rfl
            case ud => with_unfolding_all rfl
          case oi =>
            have e := eqv_refl (n := 9) (v := .tup [.str "f", .int ar, .int n2]) (by kernel_rfl!)
            rw [e]; rfl
          case oj => exact at_or_nil
  case nb => rfl
theorem wr_10 {ig ic id d : Nat} {rs : List AV} (hi : σ[ic]? = some (.inst 98 d)) (hd : σ[d]? = some (codeO ar n2 rs)) :
    S1 G cxR (mRd ar v ig ic id) σ ((dBody (atTop 25)).getD 10 noStmt) (.ret (.bool true)) (mRd ar v ig ic id) σ := by
  refine' s_ret ?a
  case a =>
    refine' ev_cmp (cm_of ?b ?c ?d) ?e
    case b => kpt_turns
    case c => kpt_turns
    case d =>
      refine' op_eqd (d := pyd (.tup [.tup [.str "T.1"], .tup [.str "x"], .tup [.str "m"]])) (d' := pyd (.tup [.tup [.str "T.1"], .tup [.str "x"], .tup [.str "m"]])) ?f ?g ?h
      case f => exact rd_val (by kernel_rfl!)
      case g => exact rd_val (by kernel_rfl!)
      case h => kernel_rfl!
    case e => with_unfolding_all rfl
end
end SC17
section SC18
section
variable {G : Gl} {m : List (PySem.Str × AV)} {σ : List AO} {a b ar n n2 v : Int} {rws rws2 : List Rw} {lbs : List (Option Int)} {g : List AO}
theorem kp_keg (h : σ[1]? = some (.list [.int a, .int b])) : Kp [.exc none none, .list [.int a, .int b]] σ := fun i o e hn => by
  match i with
  | 0 => simp at e; exact absurd e.symm (hn none none)
  | 1 => simp at e; rw [← e]; exact h
  | k + 2 => simp at e
theorem glist_in (h : ∀ r ∈ rws2, r.wf lbs) : ∀ l ∈ glist rws2, 0 ≤ l ∧ l < (lbs.length : Int) := fun l hl => by
  simp only [glist, List.mem_filterMap] at hl
  obtain ⟨r, hr, e⟩ := hl
  have hw := h r hr
  cases r <;> simp [Rw.isGo, Rw.lab] at e <;> subst e <;> exact hw
theorem glist_len : (glist rws2).length ≤ rws2.length := List.length_filterMap_le ..
theorem nlist_nil (h : ∀ r ∈ rws2, r.ok lbs = true) : nlist lbs (glist rws2) = [] := by
  simp only [nlist, List.filter_eq_nil_iff]
  intro l hl
  simp only [glist, List.mem_filterMap] at hl
  obtain ⟨r, hr, e⟩ := hl
  have ho := h r hr
  cases r <;> simp [Rw.isGo, Rw.lab] at e <;> subst e <;> exact fun hh => absurd (ho.symm.trans ((Bool.not_eq_true' _).mp hh)) (by decide)
theorem nlist_ne (h : ∃ r ∈ rws2, r.ok lbs = false) : nlist lbs (glist rws2) ≠ [] := fun q => by
  obtain ⟨r, hr, ho⟩ := h
  simp only [nlist, List.filter_eq_nil_iff] at q
  have hg : r.isGo = true := by cases r <;> first | rfl | cases ho
  have hl : r.lab ∈ glist rws2 := by
    simp only [glist, List.mem_filterMap]
    exact ⟨r, hr, by rw [hg]; rfl⟩
  have := q _ hl
  cases r <;> first | exact this ((Bool.not_eq_true' _).mpr ho) | cases hg
theorem wrBody_is : dBody (atTop 25) = [(dBody (atTop 25)).headD noStmt, (dBody (atTop 25)).getD 1 noStmt, (dBody (atTop 25)).getD 2 noStmt, (dBody (atTop 25)).getD 3 noStmt, (dBody (atTop 25)).getD 4 noStmt, gStmt, (dBody (atTop 25)).getD 6 noStmt, nStmt, dStmt, (dBody (atTop 25)).getD 9 noStmt, (dBody (atTop 25)).getD 10 noStmt] := by rfl
/-- behind the deeds -/
theorem wr_rest (L : Lw σ a b ar n (clN (opR rws lbs) n) rws (clR (opR rws lbs) n rws) lbs) (hz : rws.length ≤ 900) (hz2 : lbs.length ≤ 900) (hp : ∀ r ∈ rws, r.plain) (hwf : ∀ r ∈ rws, r.wf lbs) :
    SxX G cxR (mRt ar v) σ [gStmt, (dBody (atTop 25)).getD 6 noStmt, nStmt, dStmt, (dBody (atTop 25)).getD 9 noStmt, (dBody (atTop 25)).getD 10 noStmt] (.ret (.bool true)) [.exc none none, .list [.int a, .int b]] := by
  have l10 := (List.getElem?_eq_some_iff.mp L.olbs).1
  have hp2 : ∀ r ∈ clR (opR rws lbs) n rws, r.plain := fun r hr => by
    unfold clR at hr
    split at hr
    · rcases List.mem_append.mp hr with q | q
      · exact hp r q
      · rcases List.mem_cons.mp q with q | q
        · subst q; exact ⟨by kernel_rfl!, by kernel_rfl!⟩
        · rw [List.mem_singleton.mp q]; trivial
    · exact hp r hr
  have hw2 : ∀ r ∈ clR (opR rws lbs) n rws, r.wf lbs := fun r hr => by
    unfold clR at hr
    split at hr
    · rcases List.mem_append.mp hr with q | q
      · exact hwf r q
      · rcases List.mem_cons.mp q with q | q
        · subst q; trivial
        · rw [List.mem_singleton.mp q]; trivial
    · exact hwf r hr
  have hzr : (clR (opR rws lbs) n rws).length ≤ 1000 := by
    unfold clR
    split
    · simp; omega
    · omega
  obtain ⟨σ5, h5, k5, g5⟩ := wr_5 (G := G) (ar := ar) (v := v) L.lo hzr
  have on5 : ∀ {σ' : List AO}, (∀ (i : Nat) (x : AO), i ≠ 0 → i < σ.length → σ[i]? = some x → σ'[i]? = some x) → Lo σ' a b (clN (opR rws lbs) n) (clR (opR rws lbs) n rws) lbs := fun h => L.lo.on h
  have L5 := on5 fun i x _ hi e => k5 i x hi e
  have W5 : Wr σ5 ar n rws lbs := by
    obtain ⟨t, t0, t1⟩ := L.w.tab
    refine ⟨⟨t, k5 0 _ (by kwd_inv) t0, fun j hj => k5 j _ (List.getElem?_eq_some_iff.mp (t1 j hj)).1 (t1 j hj)⟩, k5 _ _ (by kwd_inv) L.w.w3, k5 _ _ (by kwd_inv) L.w.w4, k5 _ _ (by kwd_inv) L.w.w5, k5 _ _ (by kwd_inv) L.w.w6⟩
  have l5 := (List.getElem?_eq_some_iff.mp L5.olbs).1
  have hgl : (glist (clR (opR rws lbs) n rws)).length ≤ 1000 := Nat.le_trans glist_len hzr
  refine sxX_next h5 ?_
  by_cases hall : ∀ r ∈ clR (opR rws lbs) n rws, r.ok lbs = true
  · -- every label stands
    obtain ⟨ic, d, σ6, hc, hi, hd, k6⟩ := cw_code_ok (G := G) W5 (by kwd_inv) (by kwd_inv) hp (by kwd_inv) fun r hr => ⟨hall r hr, hw2 r hr⟩
    have hlc := cl_lcode_ok W5.w3 W5.w4 hc
    have L6 : Lo σ6 a b (clN (opR rws lbs) n) (clR (opR rws lbs) n rws) lbs := ⟨k6 _ _ (by decide) (by decide) (by decide) L5.keg, k6 _ _ (by decide) (by decide) (by decide) L5.cell, k6 _ _ (by decide) (by decide) (by decide) L5.own, k6 _ _ (by decide) (by decide) (by decide) L5.orows, k6 _ _ (by decide) (by decide) (by decide) L5.olbs⟩
    have g6 := k6 _ _ (by kwd_inv) (by kwd_inv) (by kwd_inv) g5
    have l6 := (List.getElem?_eq_some_iff.mp L6.olbs).1
    have h6 : S1 G cxR (mRg ar v (σ.length + 1)) σ5 ((dBody (atTop 25)).getD 6 noStmt) .next [("keg", .loc 1), ("arity", .int ar), ("writer", .loc 4), ("turn", .int v), ("goals", .loc (σ.length + 1)), ("code", .loc ic)] σ6 := by
      refine' s_assign ?a ?b ?c
      case a => kpt_turns
      case b => kd_p1
      case c => intro _; rfl
    obtain ⟨σ7, h7, k7⟩ := wr_7F (G := G) (m := [("keg", .loc 1), ("arity", .int ar), ("writer", .loc 4), ("turn", .int v), ("goals", .loc (σ.length + 1)), ("code", .loc ic)]) L6 g6 hgl (glist_in hw2) (by kwd_inv) (by kwd_rel) (nlist_nil hall)
    have L7 := L6.on fun i x _ hi e => k7 i x hi e
    have hi7 := k7 _ _ (List.getElem?_eq_some_iff.mp hi).1 hi
    have hd7 := k7 _ _ (List.getElem?_eq_some_iff.mp hd).1 hd
    obtain ⟨σ8, h8, k8, g8⟩ := wr_8 (G := G) (m := [("keg", .loc 1), ("arity", .int ar), ("writer", .loc 4), ("turn", .int v), ("goals", .loc (σ.length + 1)), ("code", .loc ic)]) (m' := mRd ar v (σ.length + 1) ic (σ7.length + 1)) L7 hzr (by kwd_inv) hw2 (by kwd_less)
    have L8 := L7.on fun i x _ hi e => k8 i x hi e
    have hi8 := k8 _ _ (List.getElem?_eq_some_iff.mp hi7).1 hi7
    have hd8 := k8 _ _ (List.getElem?_eq_some_iff.mp hd7).1 hd7
    have hpt : pls 8 ((clR (opR rws lbs) n rws).map (Rw.turn lbs)) = true := by
      rw [pls_iff]
      intro u hu
      obtain ⟨r, hr, rfl⟩ := List.mem_map.mp hu
      exact turn_pl (hp2 r hr)
    have h9 := wr_9 (G := G) (v := v) (ig := σ.length + 1) L8 hi8 hd8 g8 (by simpa using hzr) hpt
    have h10 := wr_10 (G := G) (v := v) (ig := σ.length + 1) (id := σ7.length + 1) hi8 hd8
    exact (sxX_of (sx_next h6 (sx_next h7 (sx_next h8 (sx_next h9 (sx_stop h10 (by intro q; cases q))))))).weak (kp_keg L8.keg)
  · have hbad : ∃ r ∈ clR (opR rws lbs) n rws, r.ok lbs = false := by
      refine Classical.byContradiction fun q => hall fun r hr => ?_
      cases ho : r.ok lbs with
      | true => rfl
      | false => exact absurd ⟨r, hr, ho⟩ q
    obtain ⟨σ6, hc, k6⟩ := cw_code_bad (G := G) W5 (by kwd_inv) (by kwd_inv) hp (by kwd_inv) hw2 hbad
    have hlc := cl_lcode_bad W5.w3 W5.w4 hc
    have L6 : Lo σ6 a b (clN (opR rws lbs) n) (clR (opR rws lbs) n rws) lbs := ⟨k6 _ _ (by decide) (by decide) (by decide) L5.keg, k6 _ _ (by decide) (by decide) (by decide) L5.cell, k6 _ _ (by decide) (by decide) (by decide) L5.own, k6 _ _ (by decide) (by decide) (by decide) L5.orows, k6 _ _ (by decide) (by decide) (by decide) L5.olbs⟩
    have g6 := k6 _ _ (by kwd_inv) (by kwd_inv) (by kwd_inv) g5
    have h6 : S1X G cxR (mRg ar v (σ.length + 1)) σ5 ((dBody (atTop 25)).getD 6 noStmt) .next [("keg", .loc 1), ("arity", .int ar), ("writer", .loc 4), ("turn", .int v), ("goals", .loc (σ.length + 1)), ("code", .none)] σ6 := by
      refine' s_assignX ?a ?b ?c
      case a =>
        refine' evX_call ?u1 ?u2 ?u3 hlc ?u4 ?u5
        case u1 => kcf_m
        case u2 => kc_close
        case u3 => kcf_all
        case u4 => exact Nat.le_refl _
        case u5 => intro _; rfl
      case b =>
        intro σ' _
        refine sn_put rfl ?_ ?_
        · kernel_rfl!
        · kwd_less
      case c => intro _; rfl
    refine sxX_then h6 fun σ' kk => ?_
    have ne : ∀ {x : AO}, (∀ t d, x ≠ .exc t d) → ∀ {i : Nat}, σ6[i]? = some x → σ'[i]? = some x := fun {x} hx {i} e => kk i x e hx
    have L6' : Lo σ' a b (clN (opR rws lbs) n) (clR (opR rws lbs) n rws) lbs := ⟨ne (fun _ _ q => by cases q) L6.keg, ne (fun _ _ q => by cases q) L6.cell, ne (fun _ _ q => by cases q) L6.own, ne (fun _ _ q => by cases q) L6.orows, ne (fun _ _ q => by cases q) L6.olbs⟩
    have g6' := ne (fun _ _ q => by cases q) g6
    obtain ⟨σ7, h7, k7⟩ := wr_7T (G := G) (m := [("keg", .loc 1), ("arity", .int ar), ("writer", .loc 4), ("turn", .int v), ("goals", .loc (σ.length + 1)), ("code", .none)]) L6' g6' hgl (glist_in hw2) (by kwd_inv) (by kwd_rel) (nlist_ne hbad) (by kwd_rel)
    have L7 := L6'.on fun i x _ hi e => k7 i x hi e
    exact (sxX_of (sx_stop h7 (by intro q; cases q))).weak (kp_keg L7.keg)
theorem cl_written : ∃ a' b', ClX G 7 (.ref 323) [.loc 1] [.tab none, .list [.int a, .int b]] (.bool true) [.exc none none, .list [.int a', .int b']] := by
  have hb := tapR_bounds a b (n := 4) (by decide)
  obtain ⟨a2, b2, n2, rws, lbs, g, v, h2, I⟩ := wr_2 (G := G) (a := tapA a 4) (b := tapB a b) (ar := 1 + tapR a b 4) (by kwd_inv) (by kwd_inv)
  have rz := I.rz
  have lz := I.lz
  have h3 := wr_3 (G := G) (a := a2) (b := b2) (ar := 1 + tapR a b 4) (n := n2) (v := v) (lbs := lbs) (g := g) I.pl
  obtain ⟨g4, h4⟩ := wr_4 (G := G) (a := a2) (b := b2) (ar := 1 + tapR a b 4) (n := n2) (v := v) (lbs := lbs) (g := g) I.pl (by kwd_inv)
  have h5 := wr_rest (G := G) (v := v) (lw_SQ (a := a2) (b := b2) (ar := 1 + tapR a b 4) (n := n2) (n2 := clN (opR rws lbs) n2) (rws := rws) (rws2 := clR (opR rws lbs) n2 rws) (lbs := lbs) (g := g4)) (by kwd_inv) (by kwd_inv) I.pl I.wf
  have hbody : SxX G cxR [("keg", .loc 1)] ([.tab none, .list [.int a, .int b]] ++ [.cell none]) (dBody (atTop 25)) (.ret (.bool true)) [.exc none none, .list [.int a2, .int b2]] := by
    rw [wrBody_is]
    exact sxX_next wr_0 (sxX_next wr_1 (sxX_next h2 (sxX_next h3 (sxX_next h4 h5))))
  refine ⟨a2, b2, ?_⟩
  refine cl_defCX (xs := ["keg"]) (cs := [("own", 2)]) (ca := [.cell none]) (ml := [("keg", .loc 1)]) ho_law_written_right ?_ ?_ ?_ ?_ ?_ ?_ rfl ?_ ?_ ?_ ?_ hbody ?_ ?_ ?_ ?_ <;> kqd_all
end
end SC18
section SC20
local macro_rules | `(tactic| ktu_offI) => `(tactic|
  first
    | with_reducible refine' cl_tap ?z0 ?z1 ?z2
      case z0 => ktu_offL
      case z1 => ktu_offL
      case z2 => ktu_offL)

section
variable {G : Gl} {c : Cx} {m : List (PySem.Str × AV)} {σ σ₁ σ₂ σ' : List AO} {vs us : List AV}
/-- list + list -/
theorem op_addL {i j n : Nat} (hi : σ[i]? = some (.list vs)) (hj : σ[j]? = some (.list us)) (hn : σ.length = n) (hz : vs.length + us.length ≤ 900) : Op2 G (binaryOp .Add) σ (.loc i) (.loc j) (.loc n) (σ ++ [.list (vs ++ us)]) := fun c F ω m s a' b' S ra rb Q E p => by
  subst hn
  obtain ⟨y, ws, k, rfl, hy, hl, hw⟩ := S.lst hi ra
  obtain ⟨y2, ws2, k2, rfl, hy2, hl2, hw2⟩ := S.lst hj rb
  have e : ws.toArray ++ ws2.toArray = (ws ++ ws2).toArray := by simp
  have l1 := hw.length
  have l2 := hw2.length
  refine concat_meets ⟨_, hl, rfl⟩ ⟨_, hl2, rfl⟩ noFill_list_add seq_list_add PySem.F.slot_list_add PySem.F.entry_list_add (PySem.F.args_list_add_2 _ _)
    (list_addW y y2 ws.toArray ws2.toArray k k2 none none #[] #[] (by rw [List.size_toArray, List.size_toArray, sizeLine_eq]; omega)) ⟨hl, hl2, ?_⟩
  rw [e]
  obtain ⟨S₁, h1⟩ := S.pushed (o := { cls := .type "list", data := .seq (ws ++ ws2).toArray }) (y := .list (vs ++ us)) rfl (.list ((VRs.append hw2 hw).mono (Wd.le_push _ _)))
  exact p _ _ _ _ (Wd.le_push _ _) S₁ (.loc h1)
end
/-! the scopes' frame -/
noncomputable abbrev cxS (N : Nat) : Cx := ⟨5, "_law_scopes_right", dScope (atTop 26), 328, .ref 327, [("name", N), ("names", N + 1), ("keg", N + 2)], none⟩
noncomputable def tgStmt : Stmt := (dBody (atTop 26)).getD 2 noStmt
noncomputable def tgO : Expr := binR (asgE tgStmt)
noncomputable def tgI : Expr := lcE tgO
noncomputable def tgOs : Scope := lcS tgO
noncomputable def tgIs : Scope := lcS tgI
theorem tgI_is : ∃ p1 p2 p3 p4 p5 p6 p7 p8 p9 p10, tgI = .ListComp (.Name "name" p1) [⟨.Name "name" p2, .Name "names" p3, [.Compare (.Call (.Name "_law_tap" p4) [.Name "keg" p5, .Constant (.int 5) 0 p6] [] p7) [.Eq] [.Constant (.int 0) 0 p8] p9], 0⟩] tgIs p10 := ⟨_, _, _, _, _, _, _, _, _, _, rfl⟩
theorem tgO_is : ∃ p1 p2 p3 p4 p5 p6, tgO = .ListComp tgI [⟨.Name "turn" p1, .Call (.Name "range" p2) [.Constant (.int 3) 0 p3] [] p4, [], 0⟩] tgOs p5 ∧ p6 = p5 := ⟨_, _, _, _, _, _, rfl, rfl⟩
noncomputable def nms : List PySem.Str := ["x", "y", "z", "w"]
structure Sb (σ : List AO) (N nl : Nat) : Prop where
  n1 : 1 < N
  nl3 : N + 3 ≤ nl
  keg : ∃ a b : Int, σ[1]? = some (.list [.int a, .int b])
  cellK : σ[N + 2]? = some (.cell (some (.loc 1)))
  cellN : σ[N + 1]? = some (.cell (some (.loc nl)))
  names : σ[nl]? = some (.list (nms.map AV.str))
structure LK (σ σ0 : List AO) (x : PySem.Str) (j p k : Nat) (acc : List AV) : Prop where
  fr : ∀ i y, i ≠ 1 → i < p → σ0[i]? = some y → σ[i]? = some y
  keg : ∃ a b : Int, σ[1]? = some (.list [.int a, .int b])
  lit : σ[p]? = some (.lit j k)
  lst : σ[p + 1]? = some (.list acc)
  ns : ∃ mb, σ[p + 2]? = some (.ns mb) ∧ ∀ v, put x v mb = [(x, v)]
section
variable {G : Gl} {m : List (PySem.Str × AV)} {σ σ0 : List AO} {N nl l1 p : Nat} {cs1 : List (PySem.Str × Nat)}
noncomputable abbrev cxI (N l1 p : Nat) (cs1 : List (PySem.Str × Nat)) : Cx := ((cxS N).into tgOs l1 cs1).into tgIs (p + 2) [("keg", N + 2)]
theorem tap_rows {p1 p2 p4 p5 p6 p7 p8 p9 : Pos} (B : Sb σ0 N nl) (hp : nl < p) : ∀ (rest : List PySem.Str) (k : Nat) (σ : List AO) (tl : List PySem.Str), nms.drop k = rest → LK σ σ0 "name" nl p k (tl.map AV.str) → (∀ x ∈ tl, x ∈ nms) → tl.length + rest.length ≤ 4 →
    ∃ (σ' : List AO) (tl' : List PySem.Str), Lp G (cxI N l1 p cs1) m (.Name "name" p1) (.Name "name" p2) [.Compare (.Call (.Name "_law_tap" p4) [.Name "keg" p5, .Constant (.int 5) 0 p6] [] p7) [.Eq] [.Constant (.int 0) 0 p8] p9] (.loc p) (p + 1) σ σ' ∧
      (∀ i y, i ≠ 1 → i < p → σ0[i]? = some y → σ'[i]? = some y) ∧ (∃ a b : Int, σ'[1]? = some (.list [.int a, .int b])) ∧ σ'[p + 1]? = some (.list (tl'.map AV.str)) ∧ (∀ x ∈ tl', x ∈ nms) ∧ tl'.length ≤ 4 ∧ ∃ mb, σ'[p + 2]? = some (.ns mb)
  | [], k, σ, tl, hd, H, ht, hz => by
    have n1 := B.n1
    have nl3 := B.nl3
    have hk : nms[k]? = none := by
      rw [List.getElem?_eq_none_iff]
      have : (nms.drop k).length = 0 := by rw [hd]; rfl
      simp at this; omega
    obtain ⟨mb, hn, _⟩ := H.ns
    obtain ⟨a, b, hkeg⟩ := H.keg
    exact ⟨_, tl, .done (nd_list H.lit (H.fr nl _ (by kwd_inv) hp B.names) (by simp [hk])), fun i y h1 hi e => at_set_ne (by kwd_inv) (H.fr i y h1 hi e), ⟨a, b, at_set_ne (by kwd_inv) hkeg⟩, at_set_ne (by kwd_inv) H.lst, ht, by simpa using hz, ⟨mb, at_set_ne (by kwd_inv) hn⟩⟩
  | v :: rest, k, σ, tl, hd, H, ht, hz => by
    have n1 := B.n1
    have nl3 := B.nl3
    have hk : nms[k]? = some v := by rw [← List.head?_drop, hd]; rfl
    have hv : v ∈ nms := List.mem_of_getElem? hk
    have hd' : nms.drop (k + 1) = rest := by rw [← List.tail_drop, hd]; rfl
    obtain ⟨mb, hn, hput⟩ := H.ns
    obtain ⟨a, b, hkeg⟩ := H.keg
    have hx : (relS tgIs (scopeOf ((cxS N).into tgOs l1 cs1))).names.lookup ("name" : PySem.Str) = some .local := by kernel_rfl!
    have hne : (σ.set p (.lit nl (k + 1)))[p + 2]? = some (.ns mb) := at_set_ne (by kwd_inv) hn
    have hns : ((σ.set p (.lit nl (k + 1))).set (p + 2) (.ns [("name", .str v)]))[p + 2]? = some (.ns [("name", .str v)]) := at_set_eq hne
    have hdr : Dr G (cxI N l1 p cs1) m σ (.Name "name" p2) (.loc p) m ((σ.set p (.lit nl (k + 1))).set (p + 2) (.ns [("name", .str v)])) :=
      dr_list H.lit (H.fr nl _ (by kwd_inv) hp B.names) (v := .str v) (by simp [hk]) (as_name (sn_blockI hx hne (hput _))) (by intro _ _; rfl)
    have hkeg1 : ((σ.set p (.lit nl (k + 1))).set (p + 2) (.ns [("name", .str v)]))[1]? = some (.list [.int a, .int b]) := at_set_ne (by kwd_inv) (at_set_ne (by kwd_inv) hkeg)
    have hcK : ((σ.set p (.lit nl (k + 1))).set (p + 2) (.ns [("name", .str v)]))[N + 2]? = some (.cell (some (.loc 1))) := at_set_ne (by kwd_inv) (at_set_ne (by kwd_inv) (H.fr _ _ (by kwd_inv) (by kwd_inv) B.cellK))
    have htest : Tt G (cxI N l1 p cs1) m ((σ.set p (.lit nl (k + 1))).set (p + 2) (.ns [("name", .str v)])) (.Compare (.Call (.Name "_law_tap" p4) [.Name "keg" p5, .Constant (.int 5) 0 p6] [] p7) [.Eq] [.Constant (.int 0) 0 p8] p9) (tapR a b 5 == 0)
        (((σ.set p (.lit nl (k + 1))).set (p + 2) (.ns [("name", .str v)])).set 1 (.list [.int (tapA a 5), .int (tapB a b)])) := by
      kln_le
    have H1 : LK (((σ.set p (.lit nl (k + 1))).set (p + 2) (.ns [("name", .str v)])).set 1 (.list [.int (tapA a 5), .int (tapB a b)])) σ0 "name" nl p (k + 1) (tl.map AV.str) :=
      ⟨fun i y h1 hi e => at_set_ne (Ne.symm h1) (at_set_ne (by kwd_inv) (at_set_ne (by kwd_inv) (H.fr i y h1 hi e))), ⟨_, _, at_set_eq hkeg1⟩, at_set_ne (by kwd_inv) (at_set_ne (by kwd_inv) (at_set_eq H.lit)), at_set_ne (by kwd_inv) (at_set_ne (by kwd_inv) (at_set_ne (by kwd_inv) H.lst)), ⟨_, at_set_ne (by kwd_inv) hns, fun u => if_pos rfl⟩⟩
    cases ho : (tapR a b 5 == 0) with
    | false =>
      obtain ⟨σ', tl', h3, f3, k3, l3, t3, z3, n3⟩ := tap_rows B hp rest (k + 1) _ tl hd' H1 ht (by simp at hz; omega)
      exact ⟨σ', tl', .skip hdr (ts_F htest ho) h3, f3, k3, l3, t3, z3, n3⟩
    | true =>
      have H2 : LK ((((σ.set p (.lit nl (k + 1))).set (p + 2) (.ns [("name", .str v)])).set 1 (.list [.int (tapA a 5), .int (tapB a b)])).set (p + 1) (.list (tl.map AV.str ++ [.str v]))) σ0 "name" nl p (k + 1) ((tl ++ [v]).map AV.str) := by
        obtain ⟨mb2, hn2, hp2⟩ := H1.ns
        refine ⟨fun i y h1 hi e => at_set_ne (by kwd_inv) (H1.fr i y h1 hi e), ⟨_, _, at_set_ne (by kwd_inv) (at_set_eq hkeg1)⟩, at_set_ne (by kwd_inv) H1.lit, ?_, ⟨mb2, at_set_ne (by kwd_inv) hn2, hp2⟩⟩
        rw [at_set_eq H1.lst]; simp
      obtain ⟨σ', tl', h3, f3, k3, l3, t3, z3, n3⟩ := tap_rows B hp rest (k + 1) _ (tl ++ [v]) hd' H2 (fun x hx => by
        rcases List.mem_append.mp hx with q | q
        · exact ht x q
        · rw [List.mem_singleton.mp q]; exact hv) (by simp at hz ⊢; omega)
      refine ⟨σ', tl', .keep hdr (ts_T htest ho) (u := .str v) ?_ H1.lst (by simp at hz; rw [List.length_map, sizeLine_eq]; omega) h3, f3, k3, l3, t3, z3, n3⟩
      refine ev_localI hx (at_set_ne (by kwd_inv) hns) ?_ (by decide +kernel)
      kwd_rel
end
end SC20
section SC21
section
variable {G : Gl} {m : List (PySem.Str × AV)} {σ σ0 : List AO} {N nl l1 p : Nat}
theorem Sb.on {σ' : List AO} (B : Sb σ N nl) (hk : ∀ i y, i ≠ 1 → i < σ.length → σ[i]? = some y → σ'[i]? = some y) (hg : ∃ a b : Int, σ'[1]? = some (.list [.int a, .int b])) : Sb σ' N nl := by
  have n1 := B.n1
  have nl3 := B.nl3
  have ln := (List.getElem?_eq_some_iff.mp B.names).1
  exact ⟨n1, nl3, hg, hk _ _ (by kwd_inv) (by kwd_inv) B.cellK, hk _ _ (by kwd_inv) (by kwd_inv) B.cellN, hk _ _ (by kwd_inv) ln B.names⟩
noncomputable abbrev cs1 (N : Nat) : List (PySem.Str × Nat) := [("names", N + 1), ("keg", N + 2)]
theorem ev_tgI (B : Sb σ N nl) : ∃ (σ' : List AO) (tl : List PySem.Str), Ev G ((cxS N).into tgOs l1 (cs1 N)) m σ tgI (.loc (σ.length + 1)) σ' ∧
    (∀ i y, i ≠ 1 → i < σ.length → σ[i]? = some y → σ'[i]? = some y) ∧ (∃ a b : Int, σ'[1]? = some (.list [.int a, .int b])) ∧ σ'[σ.length + 1]? = some (.list (tl.map AV.str)) ∧ (∀ x ∈ tl, x ∈ nms) ∧ tl.length ≤ 4 := by
  obtain ⟨p1, p2, p3, p4, p5, p6, p7, p8, p9, p10, hk⟩ := tgI_is
  rw [hk]
  have n1 := B.n1
  have nl3 := B.nl3
  have ln := (List.getElem?_eq_some_iff.mp B.names).1
  have B0 : Sb (σ ++ [AO.lit nl 0] ++ [.list []] ++ [.ns []]) N nl := B.on (fun i y _ _ e => at_old (at_old (at_old e))) (by obtain ⟨a, b, h⟩ := B.keg; exact ⟨a, b, at_old (at_old (at_old h))⟩)
  have H : LK (σ ++ [AO.lit nl 0] ++ [.list []] ++ [.ns []]) σ "name" nl σ.length 0 (([] : List PySem.Str).map AV.str) :=
    ⟨fun i y _ _ e => at_old (at_old (at_old e)), B0.keg, at_old (at_old (at_push rfl)), at_old (at_push (by simp)), ⟨[], at_push (by simp), fun v => rfl⟩⟩
  obtain ⟨σ', tl, h3, f3, k3, l3, t3, z3, mb, n3⟩ := tap_rows (G := G) (m := m) (l1 := l1) (cs1 := cs1 N) (p1 := p1) (p2 := p2) (p4 := p4) (p5 := p5) (p6 := p6) (p7 := p7) (p8 := p8) (p9 := p9) B ln nms 0 _ [] rfl H (by simp) (by simp [nms])
  obtain ⟨a, b, hkg⟩ := k3
  have hcN := B.cellN
  refine ⟨_, tl, ev_comp (n := σ.length + 1) (cs := [("keg", N + 2)]) (mb := mb) ?_ ?_ ?_ ?_ ?_ (pi_list B.names rfl) (by simp) (pi_lit (j := nl) (k := 0) H.lit) h3 n3 (by intro _ _; rfl), fun i y h1 hi e => at_set_ne (by kwd_inv) (f3 i y h1 hi e), ⟨a, b, at_set_ne (by kwd_inv) hkg⟩, at_set_ne (by kwd_inv) l3, t3, z3⟩
  · kernel_rfl!
  · kernel_rfl!
  · kernel_rfl!
  · kernel_rfl!
  · refine ev_cellI ?_ ?_ hcN ?_
    · kernel_rfl!
    · kt_ors
    · decide +kernel
/-- the lists of told names -/
noncomputable def Tl (σ : List AO) (p : Nat) (i : Nat) (tl : List PySem.Str) : Prop := σ[i]? = some (.list (tl.map AV.str)) ∧ (∀ x ∈ tl, x ∈ nms) ∧ tl.length ≤ 4 ∧ p < i
inductive Tls (σ : List AO) (p : Nat) : List Nat → List (List PySem.Str) → Prop where
  | nil : Tls σ p [] []
  | cons {i : Nat} {tl : List PySem.Str} {is : List Nat} {tls : List (List PySem.Str)} : Tl σ p i tl → Tls σ p is tls → Tls σ p (i :: is) (tl :: tls)
theorem Tls.on {σ' : List AO} (h : ∀ i y, p < i → σ[i]? = some y → (∃ vs, y = .list vs) → σ'[i]? = some y) {is : List Nat} {tls : List (List PySem.Str)} (t : Tls σ p is tls) : Tls σ' p is tls := by
  induction t with
  | nil => exact .nil
  | cons h1 _ ih => exact .cons ⟨h _ _ h1.2.2.2 h1.1 ⟨_, rfl⟩, h1.2⟩ ih
theorem Tls.snoc {i : Nat} {tl : List PySem.Str} (h : Tl σ p i tl) {is : List Nat} {tls : List (List PySem.Str)} (t : Tls σ p is tls) : Tls σ p (is ++ [i]) (tls ++ [tl]) := by
  induction t with
  | nil => exact .cons h .nil
  | cons h1 _ ih => exact .cons h1 ih
structure LO (σ σ0 : List AO) (p : Nat) (y k : Int) (is : List Nat) (tls : List (List PySem.Str)) : Prop where
  fr : ∀ i y, i ≠ 1 → i < p → σ0[i]? = some y → σ[i]? = some y
  keg : ∃ a b : Int, σ[1]? = some (.list [.int a, .int b])
  rit : σ[p]? = some (.rit y k)
  lst : σ[p + 1]? = some (.list (is.map AV.loc))
  ns : ∃ mb, σ[p + 2]? = some (.ns mb) ∧ ∀ v, put "turn" v mb = [(("turn" : PySem.Str), v)]
  tl : Tls σ (p + 1) is tls
theorem tg_rows {p1 : Pos} (B : Sb σ0 N nl) (hp : nl < p) : ∀ (k : Nat) (y : Int) (σ : List AO) (is : List Nat) (tls : List (List PySem.Str)), LO σ σ0 p y k is tls → is.length + k ≤ 10 →
    ∃ (σ' : List AO) (is' : List Nat) (tls' : List (List PySem.Str)), Lp G ((cxS N).into tgOs (p + 2) (cs1 N)) m tgI (.Name "turn" p1) [] (.loc p) (p + 1) σ σ' ∧
      (∀ i y, i ≠ 1 → i < p → σ0[i]? = some y → σ'[i]? = some y) ∧ (∃ a b : Int, σ'[1]? = some (.list [.int a, .int b])) ∧ σ'[p + 1]? = some (.list (is'.map AV.loc)) ∧ Tls σ' (p + 1) is' tls' ∧ is'.length ≤ 10 ∧ ∃ mb, σ'[p + 2]? = some (.ns mb)
  | 0, y, σ, is, tls, H, hz => by
    have n1 := B.n1
    have nl3 := B.nl3
    obtain ⟨mb, hn, _⟩ := H.ns
    obtain ⟨a, b, hkeg⟩ := H.keg
    have hd : ∀ (i : Nat) (y : AO), σ[i]? = some y → (∃ vs, y = .list vs) → (σ.set p .dead)[i]? = some y := fun i y e q => at_set_ne (fun w => by
      obtain ⟨vs, rfl⟩ := q
      rw [← w, H.rit] at e; cases e) e
    exact ⟨_, is, tls, .done (nd_range H.rit (by kwd_inv)), fun i y h1 hi e => at_set_ne (by kwd_inv) (H.fr i y h1 hi e), ⟨a, b, at_set_ne (by kwd_inv) hkeg⟩, at_set_ne (by kwd_inv) H.lst, H.tl.on fun i y _ e q => hd i y e q, by omega, ⟨mb, at_set_ne (by kwd_inv) hn⟩⟩
  | k + 1, y, σ, is, tls, H, hz => by
    have n1 := B.n1
    have nl3 := B.nl3
    obtain ⟨mb, hn, hput⟩ := H.ns
    obtain ⟨a, b, hkeg⟩ := H.keg
    have hx : (relS tgOs (scopeOf (cxS N))).names.lookup ("turn" : PySem.Str) = some .local := by kernel_rfl!
    have e1 : ((k + 1 : Nat) : Int) - 1 = (k : Int) := by omega
    have hne : ∀ z, (σ.set p z)[p + 2]? = some (.ns mb) := fun z => at_set_ne (by kwd_inv) hn
    have hdr : Dr G ((cxS N).into tgOs (p + 2) (cs1 N)) m σ (.Name "turn" p1) (.loc p) m ((σ.set p (.rit (y + 1) k)).set (p + 2) (.ns [("turn", .int y)])) :=
      dr_range H.rit (by kwd_inv) (as_name (by rw [e1]; exact sn_blockI hx (hne _) (hput _))) (by intro _ _; rfl)
    have hkeg1 : ((σ.set p (.rit (y + 1) k)).set (p + 2) (.ns [("turn", .int y)]))[1]? = some (.list [.int a, .int b]) := at_set_ne (by kwd_inv) (at_set_ne (by kwd_inv) hkeg)
    have fr1 : ∀ i z, i ≠ 1 → i < p → σ0[i]? = some z → ((σ.set p (.rit (y + 1) k)).set (p + 2) (.ns [("turn", .int y)]))[i]? = some z := fun i z h1 hi e => at_set_ne (by kwd_inv) (at_set_ne (by kwd_inv) (H.fr i z h1 hi e))
    have B1 : Sb ((σ.set p (.rit (y + 1) k)).set (p + 2) (.ns [("turn", .int y)])) N nl := ⟨n1, nl3, ⟨a, b, hkeg1⟩, fr1 _ _ (by kwd_inv) (by kwd_inv) B.cellK, fr1 _ _ (by kwd_inv) (by kwd_inv) B.cellN, fr1 _ _ (by kwd_inv) hp B.names⟩
    have hr1 : ((σ.set p (.rit (y + 1) k)).set (p + 2) (.ns [("turn", .int y)]))[p]? = some (.rit (y + 1) k) := at_set_ne (by kwd_inv) (at_set_eq H.rit)
    have hl1 : ((σ.set p (.rit (y + 1) k)).set (p + 2) (.ns [("turn", .int y)]))[p + 1]? = some (.list (is.map AV.loc)) := at_set_ne (by kwd_inv) (at_set_ne (by kwd_inv) H.lst)
    have hn1 : ((σ.set p (.rit (y + 1) k)).set (p + 2) (.ns [("turn", .int y)]))[p + 2]? = some (.ns [("turn", .int y)]) := at_set_eq (hne _)
    have lp := (List.getElem?_eq_some_iff.mp hn1).1
    obtain ⟨σ₂, tl, h2, f2, k2, l2, t2, z2⟩ := ev_tgI (G := G) (m := m) (l1 := p + 2) B1
    have hl2 := f2 _ _ (by kwd_inv) (by kwd_inv) hl1
    have T1 : Tls ((σ.set p (.rit (y + 1) k)).set (p + 2) (.ns [("turn", .int y)])) (p + 1) is tls := H.tl.on fun i z hi e q => at_set_ne (fun w => by
      obtain ⟨vs, rfl⟩ := q
      rw [← w, hn] at e; cases e) (at_set_ne (by kwd_inv) e)
    have T2 : Tls σ₂ (p + 1) is tls := T1.on fun i z hi e _ => f2 i z (by kwd_inv) (List.getElem?_eq_some_iff.mp e).1 e
    obtain ⟨a2, b2, k2'⟩ := k2
    have l2lt := (List.getElem?_eq_some_iff.mp l2).1
    have H3 : LO (σ₂.set (p + 1) (.list (is.map AV.loc ++ [.loc (((σ.set p (.rit (y + 1) k)).set (p + 2) (.ns [("turn", .int y)])).length + 1)]))) σ0 p (y + 1) k (is ++ [((σ.set p (.rit (y + 1) k)).set (p + 2) (.ns [("turn", .int y)])).length + 1]) (tls ++ [tl]) := by
      refine ⟨fun i z h1 hi e => at_set_ne (by kwd_inv) (f2 i z h1 (by kwd_inv) (fr1 i z h1 hi e)), ⟨a2, b2, at_set_ne (by kwd_inv) k2'⟩, at_set_ne (by kwd_inv) (f2 _ _ (by kwd_inv) (by kwd_inv) hr1), ?_, ⟨_, at_set_ne (by kwd_inv) (f2 _ _ (by kwd_inv) (by kwd_inv) hn1), fun v => if_pos rfl⟩, ?_⟩
      · rw [at_set_eq hl2]; simp
      · refine Tls.on (σ := σ₂) (fun i z hi e _ => at_set_ne (by kwd_inv) e) (Tls.snoc ⟨l2, t2, z2, by omega⟩ T2)
    obtain ⟨σ', is', tls', h4, f4, k4, l4, t4, z4, n4⟩ := tg_rows B hp k (y + 1) _ _ _ H3 (by simp; omega)
    exact ⟨σ', is', tls', .keep hdr ts_nil h2 hl2 (by simp [sizeLine_eq]; omega) h4, f4, k4, l4, t4, z4, n4⟩
end
end SC21
section SC22
theorem at_old2 {x y z : AO} {l r : List AO} {k : Nat} (h : l[k]? = some z) : (l ++ x :: y :: r)[k]? = some z := by
  rw [List.getElem?_append_left (List.getElem?_eq_some_iff.mp h).1]; exact h


local macro_rules | `(tactic| krn_off) => `(tactic| ((with_reducible refine' at_old2 ?ha); (case ha => krn_off)))
local macro_rules | `(tactic| ktu_offI) => `(tactic|
  first
    | with_reducible refine' cl_Scope
      )

section
variable {G : Gl} {m : List (PySem.Str × AV)} {σ σ0 : List AO} {N nl l1 p : Nat} {a b : Int}
noncomputable abbrev lv0 : Lv := ⟨[("x", .tup [.str "sure", .int 1])], []⟩
theorem sc_0 (hN : σ.length = N) :
    S1 G (cxS N) [] (σ ++ [.cell none, .cell none, .cell (some (.loc 1))]) ((dBody (atTop 26)).headD noStmt) .next [("floors", .loc (N + 4)), ("scope", .loc (N + 7))]
      (σ ++ [.cell none, .cell (some (.loc (N + 3))), .cell (some (.loc 1)), .list (nms.map AV.str), .list [], .dict lv0.ps, scO .none (.loc (N + 5)) (.tup []), .inst 152 (N + 6)]) := by
  have h1 : (σ ++ [AO.cell none, .cell none, .cell (some (.loc 1))])[N + 1]? = some (.cell none) := by subst hN; simp
  refine' s1_to ?k1 ?k2 ?k3
  case k1 =>
    refine' s_assign_tup ?uc ?ud ?uf ?ug
    case uc =>
      refine' ev_tuple ?va ?vb
      case va =>
        refine' evs_cons ?wa ?wb ?wc
        case wa => kpt_turns
        case wb =>
          refine' evs_cons ?xa ?xb ?xc
          case xa => kpt_turns
          case xb =>
            refine' evs_cons ?ya ?yb ?yc
            case ya =>
              refine' ev_call ?ca ?cb ?cc ?cd ?ce ?cf
              case ca => kcf_m
              case cb =>
                refine' evs_cons ?da ?db ?dc
                case da => kpt_turns
                case db =>
                  refine' evs_cons ?ea ?eb ?ec
                  case ea =>
                    refine' ev_dict (n := N + 5) ?fa ?fb ?fc ?fd ?fe ?ff ?fg ?fh
                    case fa => subst hN; simp
                    case fb =>
                      refine' eps_cons ?ga ?gb ?gc
                      case ga => kpt_turns
                      case gb => kpt_turns
                      case gc => exact eps_nil
                    case fc => exact at_push (by subst hN; simp)
                    case fd => exact (by decide +kernel : ([("x" : PySem.Str)]).Nodup)
                    case fe => rfl
                    case ff => rfl
                    case fg => intro q; cases q
                    case fh => decide
                  case eb =>
                    refine' evs_cons ?ha ?hb ?hc
                    case ha => kpt_turns
                    case hb => exact evs_nil
                    case hc => intro _; rfl
                  case ec => intro _; rfl
                case dc => intro _; rfl
              case cc => kcf_all
              case cd => kaf_pre
              case ce => exact Nat.le_of_ble_eq_true (by kernel_rfl!)
              case cf => intro _; rfl
            case yb => exact evs_nil
            case yc => intro _; rfl
          case xc => intro _; rfl
        case wc => intro _; rfl
      case vb => exact Nat.le_of_ble_eq_true rfl
    case ud =>
      refine' as_tuple ?ta ?tb ?tc
      case ta => kst_mem
      case tb => intro _; rfl
      case tc => intro _; rfl
    case uf => intro _; rfl
    case ug => intro F; kernel_rfl!
  case k2 => subst hN; simp
  case k3 => subst hN; simp [List.set_append, nms]
theorem sc_1 (hN : σ.length = N) :
    S1 G (cxS N) [("floors", .loc (N + 4)), ("scope", .loc (N + 7))]
      (σ ++ [.cell none, .cell (some (.loc (N + 3))), .cell (some (.loc 1)), .list (nms.map AV.str), .list [], .dict lv0.ps, scO .none (.loc (N + 5)) (.tup []), .inst 152 (N + 6)])
      ((dBody (atTop 26)).getD 1 noStmt) .next [("floors", .loc (N + 4)), ("scope", .loc (N + 7))]
      (σ ++ [.cell none, .cell (some (.loc (N + 3))), .cell (some (.loc 1)), .list (nms.map AV.str), .list [.tup [.loc (N + 8), .loc (N + 9)]], .dict lv0.ps, scO .none (.loc (N + 5)) (.tup []), .inst 152 (N + 6), .dict lv0.ps, .list []]) := by
  have h1 : (σ ++ [AO.cell none, .cell (some (.loc (N + 3))), .cell (some (.loc 1)), .list (nms.map AV.str), .list [], .dict lv0.ps, scO .none (.loc (N + 5)) (.tup []), .inst 152 (N + 6)])[N + 4]? = some (.list []) := by subst hN; simp
  refine' s1_to ?k1 ?k2 ?k3
  case k1 =>
    refine' s_expr ?ea ?eb ?ec
    case ea =>
      refine' ev_callm ?b1 ?b2 ?b3 ?b4 ?b5 ?b6 ?b7 ?b8 ?b9 ?b10
      case b1 => kpt_turns
      case b2 => exact gm_append h1
      case b3 =>
        refine' evs_cons ?xa ?xb ?xc
        case xa =>
          refine' ev_tuple ?va ?vb
          case va =>
            refine' evs_cons ?wa ?wb ?wc
            case wa =>
              refine' ev_dict (n := N + 8) ?fa ?fb ?fc ?fd ?fe ?ff ?fg ?fh
              case fa => subst hN; simp
              case fb =>
                refine' eps_cons ?ga ?gb ?gc
                case ga => kpt_turns
                case gb => kpt_turns
                case gc => exact eps_nil
              case fc => exact at_push (by subst hN; simp)
              case fd => exact (by decide +kernel : ([("x" : PySem.Str)]).Nodup)
              case fe => rfl
              case ff => rfl
              case fg => intro q; cases q
              case fh => decide
            case wb =>
              refine' evs_cons ?ya ?yb ?yc
              case ya => kpt_turns
              case yb => exact evs_nil
              case yc => intro _; rfl
            case wc => intro _; rfl
          case vb => exact Nat.le_of_ble_eq_true rfl
        case xb => exact evs_nil
        case xc => intro _; rfl
      case b4 => exact kp_B
      case b5 =>
        refine' cl_append ?ha ?hb
        case ha => krn_off
        case hb => exact Nat.zero_le _
      case b6 => exact Nat.zero_le _
      case b7 => intro _; rfl
      case b8 => rfl
      case b9 => intro _; rfl
      case b10 => rfl
    case eb => rfl
    case ec => intro _; rfl
  case k2 => rfl
  case k3 => subst hN; simp [List.set_append]
theorem tgStmt_is : ∃ q0 q1 q2 q3 q4 q5, tgStmt = .Assign [.Name "told_global" q0] (.BinOp (.List [.List [.Constant (.str "x") 0 q1] q2] q3) .Add tgO q4) q5 := ⟨_, _, _, _, _, _, rfl⟩
noncomputable abbrev mS0 (N : Nat) : List (PySem.Str × AV) := [("floors", .loc (N + 4)), ("scope", .loc (N + 7))]
noncomputable abbrev mS1 (N i : Nat) : List (PySem.Str × AV) := [("floors", .loc (N + 4)), ("scope", .loc (N + 7)), ("told_global", .loc i)]
theorem Tls.low {q : Nat} (h : p ≤ q) {is : List Nat} {tls : List (List PySem.Str)} (t : Tls σ q is tls) : Tls σ p is tls := by
  induction t with
  | nil => exact .nil
  | cons h1 _ ih => exact .cons ⟨h1.1, h1.2.1, h1.2.2.1, by have := h1.2.2.2; omega⟩ ih
/-- told_global made -/
theorem sc_2 (B : Sb σ N nl) :
    ∃ (σ' : List AO) (i : Nat) (is : List Nat) (tls : List (List PySem.Str)), S1 G (cxS N) (mS0 N) σ tgStmt .next (mS1 N i) σ' ∧
      (∀ i y, i ≠ 1 → i < σ.length → σ[i]? = some y → σ'[i]? = some y) ∧ (∃ a b : Int, σ'[1]? = some (.list [.int a, .int b])) ∧ σ'[i]? = some (.list (is.map AV.loc)) ∧ Tls σ' (σ.length - 1) is tls ∧ is.length ≤ 11 ∧ σ.length ≤ i := by
  obtain ⟨q0, q1, q2, q3, q4, q5, hk⟩ := tgStmt_is
  obtain ⟨p1, p2, p3, p4, p5, p6, hO, _⟩ := tgO_is
  rw [hk, hO]
  have n1 := B.n1
  have nl3 := B.nl3
  have ln := (List.getElem?_eq_some_iff.mp B.names).1
  -- the first list
  have B1 : Sb (σ ++ [AO.list [AV.str "x"]] ++ [AO.list [AV.loc σ.length]] ++ [AO.rng 3]) N nl := B.on (fun i y _ _ e => at_old (at_old (at_old e))) (by obtain ⟨a, b, h⟩ := B.keg; exact ⟨a, b, at_old (at_old (at_old h))⟩)
  have hl : (σ ++ [AO.list [AV.str "x"]] ++ [AO.list [AV.loc σ.length]] ++ [AO.rng 3]).length = σ.length + 3 := by simp
  have H : LO (σ ++ [AO.list [AV.str "x"]] ++ [AO.list [AV.loc σ.length]] ++ [AO.rng 3] ++ [AO.rit 0 3] ++ [AO.list []] ++ [AO.ns []]) (σ ++ [AO.list [AV.str "x"]] ++ [AO.list [AV.loc σ.length]] ++ [AO.rng 3]) (σ.length + 3) 0 ((3 : Nat) : Int) [] [] :=
    ⟨fun i y _ _ e => at_old (at_old (at_old e)), by obtain ⟨a, b, h⟩ := B1.keg; exact ⟨a, b, at_old (at_old (at_old h))⟩, at_old (at_old (at_push (by simp))), at_old (at_push (by simp)), ⟨[], at_push (by simp), fun v => rfl⟩, .nil⟩
  obtain ⟨σ', is, tls, h3, f3, k3, l3, t3, z3, mb, n3⟩ := tg_rows (G := G) (m := mS0 N) (p1 := p1) B1 (by kwd_inv) 3 0 _ [] [] H (by simp)
  obtain ⟨a, b, hkg⟩ := k3
  have hcomp : Ev G (cxS N) (mS0 N) (σ ++ [AO.list [AV.str "x"]] ++ [AO.list [AV.loc σ.length]]) (.ListComp tgI [⟨.Name "turn" p1, .Call (.Name "range" p2) [.Constant (.int 3) 0 p3] [] p4, [], 0⟩] tgOs p5) (.loc (σ.length + 4)) (σ'.set (σ.length + 5) .dead) := by
    refine ev_comp (n := σ.length + 4) (cs := cs1 N) (mb := mb) (a := .loc (σ.length + 2)) ?_ ?_ ?_ ?_ ?_ (pi_range (k := 3) (at_push (by simp)) (by decide) (by decide) hl) (by simp) (pi_rit (y := 0) (k := 3) H.rit) h3 n3 (by intro _ _; rfl)
    · kernel_rfl!
    · kernel_rfl!
    · kernel_rfl!
    · kernel_rfl!
    · have hl2 : (σ ++ [AO.list [AV.str "x"]] ++ [AO.list [AV.loc σ.length]]).length = σ.length + 2 := by simp
      rw [← hl2]
      kpt_turns
  have fr : ∀ i y, i ≠ 1 → i < σ.length + 3 → (σ ++ [AO.list [AV.str "x"]] ++ [AO.list [AV.loc σ.length]] ++ [AO.rng 3])[i]? = some y → (σ'.set (σ.length + 5) .dead)[i]? = some y := fun i y h1 hi e => at_set_ne (by kwd_inv) (f3 i y h1 hi e)
  have hfirst : (σ'.set (σ.length + 5) .dead)[σ.length]? = some (.list [.str "x"]) := fr _ _ (by kwd_inv) (by kwd_inv) (at_old (at_old (at_push rfl)))
  have hlist : (σ'.set (σ.length + 5) .dead)[σ.length + 1]? = some (.list [.loc σ.length]) := fr _ _ (by kwd_inv) (by kwd_inv) (at_old (at_push (by simp)))
  have hrest : (σ'.set (σ.length + 5) .dead)[σ.length + 4]? = some (.list (is.map AV.loc)) := at_set_ne (by kwd_inv) l3
  have lend := (List.getElem?_eq_some_iff.mp hrest).1
  refine ⟨(σ'.set (σ.length + 5) .dead) ++ [.list ([.loc σ.length] ++ is.map AV.loc)], (σ'.set (σ.length + 5) .dead).length, σ.length :: is, ["x"] :: tls, ?_, fun i y h1 hi e => at_old (fr i y h1 (by kwd_inv) (at_old (at_old (at_old e)))), ⟨a, b, at_old (at_set_ne (by kwd_inv) hkg)⟩, at_push rfl, ?_, by simp; omega, by omega⟩
  · have hl2 : (σ ++ [AO.list [AV.str "x"]]).length = σ.length + 1 := by simp
    have h4 : Ev G (cxS N) (mS0 N) σ (.List [.List [.Constant (.str "x") 0 q1] q2] q3) (.loc (σ ++ [AO.list [AV.str "x"]]).length) (σ ++ [AO.list [AV.str "x"]] ++ [AO.list [AV.loc σ.length]]) := by kpt_turns
    rw [hl2] at h4
    refine' s_assign ?u1 ?u2 ?u3
    case u1 =>
      refine' ev_bin h4 hcomp ?u5
      case u5 => exact op_addL hlist hrest rfl (by simp; omega)
    case u2 =>
      refine sn_put rfl ?_ ?_
      · kernel_rfl!
      · kwd_less
    case u3 => intro _; rfl
  · refine .cons ⟨at_old hfirst, by simp [nms], by simp, by omega⟩ ?_
    have t4 : Tls (σ'.set (σ.length + 5) .dead ++ [.list ([.loc σ.length] ++ is.map AV.loc)]) (σ.length + 3 + 1) is tls := t3.on fun i z hi e q => at_old (at_set_ne (fun w => by
      obtain ⟨vs, rfl⟩ := q
      have e2 := n3
      rw [show σ.length + 3 + 2 = σ.length + 5 from by omega, w, e] at e2; cases e2) e)
    exact t4.low (by kwd_inv)
end
end SC22
section SC23
local macro_rules | `(tactic| ktu_offI) => `(tactic|
  first
    | with_reducible refine' cl_tap ?z0 ?z1 ?z2
      case z0 => ktu_offL
      case z1 => ktu_offL
      case z2 => ktu_offL)

theorem lk_put_eq {x : PySem.Str} {v : AV} : ∀ {m : List (PySem.Str × AV)}, lk x (put x v m) = some v
  | [] => by simp [put, lk]
  | (y, u) :: r => by
    unfold put
    split
    · rename_i h
      subst h
      simp [lk]
    · rename_i h
      simp only [lk, if_neg h]
      exact lk_put_eq
theorem lk_put_ne {x y : PySem.Str} {v : AV} (h : decide (x = y) = false) : ∀ {m : List (PySem.Str × AV)}, lk y (put x v m) = lk y m
  | [] => by
    have : ¬ y = x := fun q => (of_decide_eq_false h) q.symm
    simp [put, lk, this]
  | (z, u) :: r => by
    have hxy := of_decide_eq_false h
    unfold put
    split
    · rename_i hz
      subst hz
      have : ¬ y = x := fun q => hxy q.symm
      simp [lk, this]
    · simp only [lk]
      split
      · rfl
      · exact lk_put_ne h
theorem put_length {x : PySem.Str} {v : AV} : ∀ {m : List (PySem.Str × AV)}, (put x v m).length ≤ m.length + 1
  | [] => by simp [put]
  | (y, u) :: r => by
    unfold put
    split
    · simp
    · simp only [List.length_cons]
      have := put_length (x := x) (v := v) (m := r)
      omega
theorem pls_nms {tl : List PySem.Str} (h : ∀ x ∈ tl, x ∈ nms) : pls 8 (tl.map AV.str) = true := by
  rw [pls_iff]
  intro v hv
  obtain ⟨x, hx, rfl⟩ := List.mem_map.mp hv
  have := h x hx
  have k1 : PyData.strOk "x" = true ∧ PyData.strOk "y" = true ∧ PyData.strOk "z" = true ∧ PyData.strOk "w" = true := by
    refine ⟨?_, ?_, ?_, ?_⟩ <;> kernel_rfl!
  simp only [nms, List.mem_cons, List.not_mem_nil, or_false] at this
  rcases this with q | q | q | q <;> rw [q]
  · exact k1.1
  · exact k1.2.1
  · exact k1.2.2.1
  · exact k1.2.2.2
section
variable {G : Gl} {m : List (PySem.Str × AV)} {σ σ0 : List AO} {N nl p q P t : Nat} {a b : Int} {tl : List PySem.Str} {sv : AV}
noncomputable def oFor : Stmt := (dBody (atTop 26)).getD 3 noStmt
noncomputable def oBody : List Stmt := forB oFor
noncomputable def pFor : Stmt := oBody.getD 1 noStmt
noncomputable def pBody : List Stmt := forB pFor
theorem pFor_is : ∃ q0 q1 q2, pFor = .For (.Name "name" q0) (.Name "names" q1) pBody [] q2 := ⟨_, _, _, rfl⟩
structure PL (σ σ0 : List AO) (N nl q k P : Nat) (ps : List (PySem.Str × AV)) : Prop where
  fr : ∀ i y, i ≠ 1 → i ≠ N → i ≠ P → i < q → σ0[i]? = some y → σ[i]? = some y
  keg : ∃ a b : Int, σ[1]? = some (.list [.int a, .int b])
  cellX : ∃ v, σ[N]? = some (.cell v)
  lit : σ[q]? = some (.lit nl k)
  dct : σ[P]? = some (.dict ps)
  pz : ps.length ≤ k
  pp : ∀ x v, lk x ps = some v → pl 9 v = true
theorem p_turn {x : PySem.Str} {ps : List (PySem.Str × AV)} (hN : 1 < N) (hP1 : P ≠ 1) (hPN : P ≠ N) (hPK : P ≠ N + 2) (ht1 : t ≠ 1) (htP : t ≠ P) (hxs : pl 9 (.str x) = true) (htl : ∀ x ∈ tl, x ∈ nms) (hlt : lk "told" m = some (.loc t)) (hlp : lk "places" m = some (.loc P))
    (hkeg : σ[1]? = some (.list [.int a, .int b])) (hcX : σ[N]? = some (.cell (some (.str x)))) (hcK : σ[N + 2]? = some (.cell (some (.loc 1)))) (hT : σ[t]? = some (.list (tl.map AV.str))) (hD : σ[P]? = some (.dict ps)) (hz : ps.length ≤ 100) (hpp : ∀ x v, lk x ps = some v → pl 9 v = true) :
    ∃ (σ' : List AO) (ps' : List (PySem.Str × AV)), Sx G (cxS N) m σ pBody .next m σ' ∧ (∀ i y, i ≠ 1 → i ≠ P → σ[i]? = some y → σ'[i]? = some y) ∧ (∃ a b : Int, σ'[1]? = some (.list [.int a, .int b])) ∧ σ'[P]? = some (.dict ps') ∧ ps'.length ≤ ps.length + 1 ∧ (∀ x v, lk x ps' = some v → pl 9 v = true) ∧ σ'.length = σ.length := by
  have htp := pls_up (pls_nms htl)
  cases ho : ((pyds (tl.map AV.str)).any fun z => PyData.eqv z (pyd (.str x))) with
  | true =>
    refine ⟨σ, ps, ?_, fun i y _ _ e => e, ⟨a, b, hkeg⟩, hD, by omega, hpp, rfl⟩
    refine' sx_next ?xa ?xb
    case xa =>
      refine' s_if_F0 (y := false) ?na ?nb
      case na =>
        refine' tt_bop ?oa
        case oa =>
          refine' at_and_F ?ob ?oc
          case ob => kln_le
          case oc => rw [ho]; rfl
      case nb => rfl
    case xb => exact sx_nil
  | false =>
    cases h3 : (tapR a b 3 == 0) with
    | false =>
      refine ⟨σ.set 1 (.list [.int (tapA a 3), .int (tapB a b)]), ps, ?_, fun i y h1 _ e => at_set_ne (Ne.symm h1) e, ⟨_, _, at_set_eq hkeg⟩, at_set_ne (Ne.symm hP1) hD, by omega, hpp, by simp⟩
      refine' sx_next ?xa ?xb
      case xa =>
        refine' s_if_F0 (y := false) ?na ?nb
        case na =>
          refine' tt_bop ?oa
          case oa =>
            refine' at_and_T ?ob ?oc ?od
            case ob => kln_le
            case oc => rw [ho]; rfl
            case od =>
              refine' at_and_F ?oe ?of
              case oe => kln_le
              case of => exact h3
        case nb => rfl
      case xb => exact sx_nil
    | true =>
      refine ⟨((σ.set 1 (.list [.int (tapA a 3), .int (tapB a b)])).set 1 (.list [.int (tapA (tapA a 3) 9), .int (tapB (tapA a 3) (tapB a b))])).set P (.dict (put x (.tup [.str "register", .int (tapR (tapA a 3) (tapB a b) 9)]) ps)), _, ?_, fun i y h1 h2 e => at_set_ne (Ne.symm h2) (at_set_ne (Ne.symm h1) (at_set_ne (Ne.symm h1) e)), ⟨_, _, at_set_ne hP1 (at_set_eq (at_set_eq hkeg))⟩, at_set_eq (at_set_ne (Ne.symm hP1) (at_set_ne (Ne.symm hP1) hD)), put_length, ?_, by simp⟩
      · refine' sx_next ?xa ?xb
        case xa =>
          refine' s_if_T (y := true) ?na ?nb ?nc
          case na =>
            refine' tt_bop ?oa
            case oa =>
              refine' at_and_T ?ob ?oc ?od
              case ob => kln_le
              case oc => rw [ho]; rfl
              case od =>
                refine' at_and_T ?oe ?of ?og
                case oe => kln_le
                case of => exact h3
                case og => exact at_and_nil
          case nb => rfl
          case nc =>
            refine' sx_next ?ua ?ub
            case ua =>
              refine' s_setitem ?va ?vb ?vc ?vd ?ve
              case va => kpt_turns
              case vb => kpt_turns
              case vc => kpt_turns
              case vd =>
                refine si_dictP (at_set_ne (Ne.symm hP1) (at_set_ne (Ne.symm hP1) hD)) rfl ?_
                rw [sizeLine_eq]; omega
              case ve => intro _; rfl
            case ub => exact sx_nil
        case xb => exact sx_nil
      · intro y v hy
        by_cases hxy : x = y
        · subst hxy
          rw [lk_put_eq] at hy
          cases hy
          kernel_rfl!
        · rw [lk_put_ne (decide_eq_false hxy)] at hy
          exact hpp y v hy
theorem p_loop {q0 : Pos} (B : Sb σ0 N nl) (hnP : nl < P) (hPq : P < q) (ht1 : t ≠ 1) (htN : t ≠ N) (htP : t < P) (htl : ∀ x ∈ tl, x ∈ nms) (hlt : lk "told" m = some (.loc t)) (hlp : lk "places" m = some (.loc P)) (hT : σ0[t]? = some (.list (tl.map AV.str))) :
    ∀ (rest : List PySem.Str) (k : Nat) (σ : List AO) (ps : List (PySem.Str × AV)), nms.drop k = rest → PL σ σ0 N nl q k P ps → k + rest.length ≤ 4 →
    ∃ (σ' : List AO) (ps' : List (PySem.Str × AV)), Fo G (cxS N) (.Name "name" q0) (.loc q) pBody m σ .next m σ' ∧ (∀ i y, i ≠ 1 → i ≠ N → i ≠ P → i < q → σ0[i]? = some y → σ'[i]? = some y) ∧ (∃ a b : Int, σ'[1]? = some (.list [.int a, .int b])) ∧ (∃ v, σ'[N]? = some (.cell v)) ∧
      σ'[P]? = some (.dict ps') ∧ ps'.length ≤ 4 ∧ (∀ x v, lk x ps' = some v → pl 9 v = true) ∧ σ'.length = σ.length
  | [], k, σ, ps, hd, H, hk4 => by
    have n1 := B.n1
    have nl3 := B.nl3
    have hk : nms[k]? = none := by
      rw [List.getElem?_eq_none_iff]
      have : (nms.drop k).length = 0 := by rw [hd]; rfl
      simp at this; omega
    obtain ⟨a, b, hkeg⟩ := H.keg
    obtain ⟨v, hv⟩ := H.cellX
    refine ⟨_, ps, .done (nd_list H.lit (H.fr nl _ (by kwd_inv) (by kwd_inv) (by kwd_inv) (by kwd_inv) B.names) (by simp [hk])), fun i y h1 h2 h3 hi e => at_set_ne (by kwd_inv) (H.fr i y h1 h2 h3 hi e), ⟨a, b, at_set_ne (by kwd_inv) hkeg⟩, ⟨v, at_set_ne (by kwd_inv) hv⟩, at_set_ne (by kwd_inv) H.dct, ?_, H.pp, by simp⟩
    have := H.pz
    simp at hk4; omega
  | x :: rest, k, σ, ps, hd, H, hk4 => by
    have n1 := B.n1
    have nl3 := B.nl3
    have hk : nms[k]? = some x := by rw [← List.head?_drop, hd]; rfl
    have hx : x ∈ nms := List.mem_of_getElem? hk
    have hd' : nms.drop (k + 1) = rest := by rw [← List.tail_drop, hd]; rfl
    obtain ⟨a, b, hkeg⟩ := H.keg
    obtain ⟨v, hv⟩ := H.cellX
    have hxs : pl 9 (.str x) = true := by
      have := pls_up (pls_nms (tl := [x]) (fun y hy => by rw [List.mem_singleton.mp hy]; exact hx))
      simpa [pls] using this
    have hsn : (dScope (atTop 26)).names.lookup ("name" : PySem.Str) = some .cell := by kernel_rfl!
    have hdr : Dr G (cxS N) m σ (.Name "name" q0) (.loc q) m ((σ.set q (.lit nl (k + 1))).set N (.cell (some (.str x)))) :=
      dr_list H.lit (H.fr nl _ (by kwd_inv) (by kwd_inv) (by kwd_inv) (by kwd_inv) B.names) (v := .str x) (by simp [hk]) (as_name (sn_cellF hsn (by kt_ors) (at_set_ne (by kwd_inv) hv))) (by intro _ _; rfl)
    have c2 : ∀ {i : Nat} {y : AO}, i ≠ q → i ≠ N → σ[i]? = some y → ((σ.set q (.lit nl (k + 1))).set N (.cell (some (.str x))))[i]? = some y := fun h1 h2 e => at_set_ne (Ne.symm h2) (at_set_ne (Ne.symm h1) e)
    have hcX : ((σ.set q (.lit nl (k + 1))).set N (.cell (some (.str x))))[N]? = some (.cell (some (.str x))) := at_set_eq (at_set_ne (by kwd_inv) hv)
    have hpz := H.pz
    obtain ⟨σ₁, ps₁, h1, f1, k1, d1, z1, p1, len1⟩ := p_turn (G := G) (N := N) (t := t) (x := x) n1 (by kwd_inv) (by kwd_inv) (by kwd_inv) ht1 (by kwd_inv) hxs htl hlt hlp (c2 (by kwd_inv) (by kwd_inv) hkeg) hcX (c2 (by kwd_inv) (by kwd_inv) (H.fr _ _ (by kwd_inv) (by kwd_inv) (by kwd_inv) (by kwd_inv) B.cellK)) (c2 (by kwd_inv) (by kwd_inv) (H.fr _ _ ht1 htN (by kwd_inv) (by kwd_inv) hT)) (c2 (by kwd_inv) (by kwd_inv) H.dct) (by simp at hk4; omega) H.pp
    have H1 : PL σ₁ σ0 N nl q (k + 1) P ps₁ :=
      ⟨fun i y e1 e2 e3 hi e => f1 i y e1 e3 (c2 (by kwd_inv) e2 (H.fr i y e1 e2 e3 hi e)), k1, ⟨_, f1 _ _ (by kwd_inv) (by kwd_inv) hcX⟩, f1 _ _ (by kwd_inv) (by kwd_inv) (at_set_ne (by kwd_inv) (at_set_eq H.lit)), d1, by omega, p1⟩
    obtain ⟨σ', ps', h2, f2, k2, x2, d2, z2, p2, len2⟩ := p_loop B hnP hPq ht1 htN htP htl hlt hlp hT rest (k + 1) σ₁ ps₁ hd' H1 (by simp at hk4; omega)
    exact ⟨σ', ps', .turn hdr h1 h2, f2, k2, x2, d2, z2, p2, by rw [len2, len1]; simp⟩
/-- places filled -/
theorem p_for (B : Sb σ N nl) (hnP : nl < P) (hP : P < σ.length) (ht1 : t ≠ 1) (htN : t ≠ N) (htP : t < P) (htl : ∀ x ∈ tl, x ∈ nms) (hlt : lk "told" m = some (.loc t)) (hlp : lk "places" m = some (.loc P)) (hT : σ[t]? = some (.list (tl.map AV.str))) (hD : σ[P]? = some (.dict [])) (hcX : ∃ v, σ[N]? = some (.cell v)) :
    ∃ (σ' : List AO) (ps' : List (PySem.Str × AV)), S1 G (cxS N) m σ pFor .next m σ' ∧ (∀ i y, i ≠ 1 → i ≠ N → i ≠ P → i < σ.length → σ[i]? = some y → σ'[i]? = some y) ∧ (∃ a b : Int, σ'[1]? = some (.list [.int a, .int b])) ∧ (∃ v, σ'[N]? = some (.cell v)) ∧
      σ'[P]? = some (.dict ps') ∧ ps'.length ≤ 4 ∧ (∀ x v, lk x ps' = some v → pl 9 v = true) ∧ σ'.length = σ.length + 1 := by
  obtain ⟨q0, q1, q2, hk⟩ := pFor_is
  rw [hk]
  have n1 := B.n1
  have nl3 := B.nl3
  obtain ⟨v, hv⟩ := hcX
  obtain ⟨a, b, hkeg⟩ := B.keg
  obtain ⟨σ', ps', h, f, kk, cx, d, z, pp, len⟩ := p_loop (G := G) (m := m) (q0 := q0) (q := σ.length) B hnP hP ht1 htN htP htl hlt hlp hT nms 0 (σ ++ [.lit nl 0]) [] rfl ⟨fun i y _ _ _ _ e => at_old e, ⟨a, b, at_old hkeg⟩, ⟨v, at_old hv⟩, at_push rfl, at_old hD, by simp, fun x v e => by cases e⟩ (by simp [nms])
  refine ⟨σ', ps', ?_, f, kk, cx, d, z, pp, by rw [len]; simp⟩
  have hcN := B.cellN
  refine s_for (a := .loc nl) ?_ (pi_list B.names rfl) h (by intro _ _; rfl)
  kpt_turns
end
end SC23
section SC24
section
variable {G : Gl} {m : List (PySem.Str × AV)} {σ σ0 : List AO} {N nl p q P t j fl : Nat} {a b : Int} {tl : List PySem.Str} {sv : AV} {x : PySem.Str} {vs fvs : List AV}
noncomputable def cFor : Stmt := oBody.getD 4 noStmt
noncomputable def cBody : List Stmt := forB cFor
noncomputable def uStmt : Stmt := cBody.getD 0 noStmt
noncomputable def uComp : Expr := asgE uStmt
noncomputable def uElt : Expr := lcE uComp
noncomputable def uScope : Scope := lcS uComp
theorem cFor_is : ∃ q0 q1 q2, cFor = .For (.Name "name" q0) (.Name "names" q1) cBody [] q2 := ⟨_, _, _, rfl⟩
theorem uStmt_is : ∃ q0 q1, uStmt = .Assign [.Name "due" q0] uComp q1 ∧ (∀ N F, swapsWith uComp (some (.Name "due" q0)) q1.line (ev (cxS N) F) = pure true) := ⟨_, _, rfl, by intro N F; kernel_rfl!⟩
theorem uComp_is : ∃ q0 q1 q2 q3 q4 q5 q6 q7 q8 r1 r2 r3 r4 r5 r6 r7, uComp = .ListComp uElt [⟨.Tuple [.Name "here" q0, .Name "more" q1] 0 q2, .Subscript (.Name "floors" q3) (.Slice none none (some (.UnaryOp .USub (.Constant (.int 1) 0 q4) q5)) q6) q7,
    [.BoolOp .Or [.Compare (.Name "name" r1) [.In] [.Name "here" r2] r3, .Compare (.Name "name" r4) [.In] [.Name "more" r5] r6] r7], 0⟩] uScope q8 := ⟨_, _, _, _, _, _, _, _, _, _, _, _, _, _, _, _, rfl⟩
theorem uElt_is : ∃ r1 r2 r3 r4 r5 r6 r7 r8, uElt = .IfExp (.Compare (.Name "name" r1) [.In] [.Name "here" r2] r3) (.Subscript (.Name "here" r4) (.Name "name" r5) r6) (.Constant .none 0 r7) r8 := ⟨_, _, _, _, _, _, _, _, rfl⟩
inductive Fls (σ : List AO) (fl : Nat) : List AV → List Lv → Prop where
  | nil : Fls σ fl [] []
  | cons {q t : Nat} {l : Lv} {vs : List AV} {ls : List Lv} : σ[q]? = some (.dict l.ps) → σ[t]? = some (.list (l.tl.map AV.str)) → (∀ x ∈ l.tl, x ∈ nms) → t ≠ 1 → t ≠ fl → (∀ x v, lk x l.ps = some v → pl 9 v = true) → Fls σ fl vs ls → Fls σ fl (.tup [.loc q, .loc t] :: vs) (l :: ls)
theorem Fls.on {σ' : List AO} (hd : ∀ (i : Nat) (y : AO), i ≠ 1 → i ≠ fl → σ[i]? = some y → (∀ v, y ≠ .cell v) → σ'[i]? = some y) (hdict : ∀ (i : Nat) (ps : List (PySem.Str × AV)), σ[i]? = some (AO.dict ps) → σ'[i]? = some (AO.dict ps)) {vs : List AV} {ls : List Lv} (h : Fls σ fl vs ls) : Fls σ' fl vs ls := by
  induction h with
  | nil => exact .nil
  | cons h1 h2 h3 h4 h5 h6 _ ih => exact .cons (hdict _ _ h1) (hd _ _ h4 h5 h2 (fun v q => by cases q)) h3 h4 h5 h6 ih
noncomputable def dueL (x : PySem.Str) (ls : List Lv) : List AV := ls.filterMap fun l => if l.has x then some (l.val x) else none
structure LD (σ σ0 : List AO) (j p k : Nat) (acc : List AV) : Prop where
  fr : ∀ i y, i < p → σ0[i]? = some y → σ[i]? = some y
  lit : σ[p]? = some (.lit j k)
  lst : σ[p + 1]? = some (.list acc)
  ns : ∃ mb, σ[p + 2]? = some (.ns mb) ∧ ∀ u v, put "more" v (put "here" u mb) = [(("here" : PySem.Str), u), ("more", v)]
theorem lp_due {q0 q1 q2 r1 r2 r3 r4 r5 r6 r7 : Pos} (hxs : pl 9 (.str x) = true) (hp : σ0.length = p) (hcX : σ0[N]? = some (.cell (some (.str x)))) (hj : σ0[j]? = some (.list vs)) : ∀ (ls : List Lv) (k : Nat) (σ : List AO) (acc : List AV), Fls σ0 fl (vs.drop k) ls → LD σ σ0 j p k acc → acc.length + ls.length ≤ 100 →
    ∃ σ', Lp G ((cxS N).into uScope (p + 2) [("name", N)]) m uElt (.Tuple [.Name "here" q0, .Name "more" q1] 0 q2) [.BoolOp .Or [.Compare (.Name "name" r1) [.In] [.Name "here" r2] r3, .Compare (.Name "name" r4) [.In] [.Name "more" r5] r6] r7] (.loc p) (p + 1) σ σ' ∧
      (∀ i y, i < p → σ0[i]? = some y → σ'[i]? = some y) ∧ σ'[p + 1]? = some (.list (acc ++ dueL x ls)) ∧ ∃ mb, σ'[p + 2]? = some (.ns mb)
  | [], k, σ, acc, hf, H, hz => by
    have lj := (List.getElem?_eq_some_iff.mp hj).1
    generalize hvs : vs.drop k = ws at hf
    cases hf
    have hk : vs[k]? = none := by
      rw [List.getElem?_eq_none_iff]
      have : (vs.drop k).length = 0 := by rw [hvs]; rfl
      simp at this; omega
    obtain ⟨mb, hn, _⟩ := H.ns
    refine ⟨_, .done (nd_list H.lit (H.fr j _ (by kwd_inv) hj) hk), fun i y hi e => at_set_ne (by kwd_inv) (H.fr i y hi e), ?_, ⟨mb, at_set_ne (by kwd_inv) hn⟩⟩
    rw [show dueL x [] = [] from rfl, List.append_nil]
    exact at_set_ne (by kwd_inv) H.lst
  | l :: ls, k, σ, acc, hf, H, hz => by
    have lj := (List.getElem?_eq_some_iff.mp hj).1
    have lN := (List.getElem?_eq_some_iff.mp hcX).1
    generalize hvs : vs.drop k = ws at hf
    cases hf with
    | @cons q t _ ws _ e1 e2 e3 e4 e5 e6 hrest =>
    have hk : vs[k]? = some (.tup [.loc q, .loc t]) := by rw [← List.head?_drop, hvs]; rfl
    have hd' : vs.drop (k + 1) = ws := by rw [← List.tail_drop, hvs]; rfl
    have lq := (List.getElem?_eq_some_iff.mp e1).1
    have lt := (List.getElem?_eq_some_iff.mp e2).1
    obtain ⟨mb, hn, hput⟩ := H.ns
    have hx1 : (relS uScope (scopeOf (cxS N))).names.lookup ("here" : PySem.Str) = some .local := by kernel_rfl!
    have hx2 : (relS uScope (scopeOf (cxS N))).names.lookup ("more" : PySem.Str) = some .local := by kernel_rfl!
    have hn1 : (σ.set p (.lit j (k + 1)))[p + 2]? = some (.ns mb) := at_set_ne (by kwd_inv) hn
    have hn2 : ((σ.set p (.lit j (k + 1))).set (p + 2) (.ns (put "here" (.loc q) mb)))[p + 2]? = some (.ns (put "here" (.loc q) mb)) := at_set_eq hn1
    have hdr : Dr G ((cxS N).into uScope (p + 2) [("name", N)]) m σ (.Tuple [.Name "here" q0, .Name "more" q1] 0 q2) (.loc p) m (((σ.set p (.lit j (k + 1))).set (p + 2) (.ns (put "here" (.loc q) mb))).set (p + 2) (.ns [("here", .loc q), ("more", .loc t)])) :=
      dr_listT H.lit (H.fr j _ (by kwd_inv) hj) hk (as_tuple (ass_cons (as_name (sn_blockI hx1 hn1 rfl)) (ass_cons (as_name (sn_blockI hx2 hn2 (hput _ _))) ass_nil (by intro _; rfl)) (by intro _; rfl)) (by intro _; rfl) (by intro _; rfl))
    generalize hσ1 : ((σ.set p (.lit j (k + 1))).set (p + 2) (.ns (put "here" (.loc q) mb))).set (p + 2) (.ns [("here", .loc q), ("more", .loc t)]) = σ1 at hdr
    have fr1 : ∀ i y, i < p → σ0[i]? = some y → σ1[i]? = some y := fun i y hi e => by rw [← hσ1]; exact at_set_ne (by kwd_inv) (at_set_ne (by kwd_inv) (at_set_ne (by kwd_inv) (H.fr i y hi e)))
    have hns : σ1[p + 2]? = some (.ns [("here", .loc q), ("more", .loc t)]) := by rw [← hσ1]; exact at_set_eq hn2
    have hlit : σ1[p]? = some (.lit j (k + 1)) := by rw [← hσ1]; exact at_set_ne (by kwd_inv) (at_set_ne (by kwd_inv) (at_set_eq H.lit))
    have hlst : σ1[p + 1]? = some (.list acc) := by rw [← hσ1]; exact at_set_ne (by kwd_inv) (at_set_ne (by kwd_inv) (at_set_ne (by kwd_inv) H.lst))
    have hq := fr1 _ _ (by kwd_inv) e1
    have ht := fr1 _ _ (by kwd_inv) e2
    have hc := fr1 _ _ (by kwd_inv) hcX
    have htp := pls_up (pls_nms e3)
    have hput2 : ∀ u v, put "more" v (put "here" u [(("here" : PySem.Str), AV.loc q), ("more", .loc t)]) = [(("here" : PySem.Str), u), ("more", v)] := fun u v => by
      have h1 : put "here" u [(("here" : PySem.Str), AV.loc q), ("more", .loc t)] = [(("here" : PySem.Str), u), ("more", .loc t)] := by kwd_less
      rw [h1]
      kwd_less
    have H1 : LD σ1 σ0 j p (k + 1) acc := ⟨fr1, hlit, hlst, ⟨_, hns, hput2⟩⟩
    have hT : Tt G ((cxS N).into uScope (p + 2) [("name", N)]) m σ1 (.BoolOp .Or [.Compare (.Name "name" r1) [.In] [.Name "here" r2] r3, .Compare (.Name "name" r4) [.In] [.Name "more" r5] r6] r7) (l.has x) σ1 := by
      refine' tt_bop ?oa
      case oa =>
        unfold Lv.has
        cases hl : (lk x l.ps).isSome with
        | true =>
          rw [Bool.true_or]
          refine' at_or_T ?ob ?oc
          case ob => kln_le
          case oc => exact hl
        | false =>
          rw [Bool.false_or]
          refine' at_or_F ?ob ?oc ?od
          case ob => kln_le
          case oc => exact hl
          case od =>
            cases htl : l.told x with
            | true =>
              refine' at_or_T ?oe ?of
              case oe => kln_le
              case of => exact htl
            | false =>
              refine' at_or_F ?oe ?of ?og
              case oe => kln_le
              case of => exact htl
              case og => exact at_or_nil
    cases hh : l.has x with
    | false =>
      obtain ⟨σ', h3, f3, l3, n3⟩ := lp_due hxs hp hcX hj ls (k + 1) σ1 acc (hd' ▸ hrest) H1 (by simp at hz; omega)
      refine ⟨σ', .skip hdr (ts_one (hh ▸ hT)) h3, f3, ?_, n3⟩
      rw [l3]
      simp [dueL, hh]
    | true =>
      obtain ⟨s1, s2, s3, s4, s5, s6, s7, s8, hE⟩ := uElt_is
      have hel : Ev G ((cxS N).into uScope (p + 2) [("name", N)]) m σ1 uElt (l.val x) σ1 := by
        rw [hE]
        cases hl : lk x l.ps with
        | some v =>
          have hv : l.val x = v := by unfold Lv.val; rw [hl]; rfl
          rw [hv]
          refine' ev_if_T ?a ?b ?c
          case a => kln_le
          case b => rw [hl]; rfl
          case c => kpt_turns
        | none =>
          have hv : l.val x = .none := by unfold Lv.val; rw [hl]; rfl
          rw [hv]
          refine' ev_if_F ?a ?b ?c
          case a => kln_le
          case b => rw [hl]; rfl
          case c => kpt_turns
      have H2 : LD (σ1.set (p + 1) (.list (acc ++ [l.val x]))) σ0 j p (k + 1) (acc ++ [l.val x]) :=
        ⟨fun i y hi e => at_set_ne (by kwd_inv) (fr1 i y hi e), at_set_ne (by kwd_inv) hlit, at_set_eq hlst, ⟨_, at_set_ne (by kwd_inv) hns, hput2⟩⟩
      obtain ⟨σ', h3, f3, l3, n3⟩ := lp_due hxs hp hcX hj ls (k + 1) _ _ (hd' ▸ hrest) H2 (by simp at hz ⊢; omega)
      refine ⟨σ', .keep hdr (ts_one (hh ▸ hT)) hel hlst (by simp at hz; rw [sizeLine_eq]; omega) h3, f3, ?_, n3⟩
      rw [l3]
      simp [dueL, hh]
end
end SC24
section SC25
section
variable {G : Gl} {m m' : List (PySem.Str × AV)} {σ σ0 : List AO} {N nl p q P t j fl : Nat} {a b : Int} {tl : List PySem.Str} {sv : AV} {x : PySem.Str} {vs fvs : List AV} {lvs : List Lv}
theorem find_due : ∀ ls : List Lv, findV x ls = ((dueL x ls).head?).getD .none ∧ knownV x ls = !(dueL x ls).isEmpty
  | [] => ⟨rfl, rfl⟩
  | l :: ls => by
    obtain ⟨h1, h2⟩ := find_due ls
    cases hh : l.has x with
    | true =>
      have e : dueL x (l :: ls) = l.val x :: dueL x ls := by simp [dueL, hh]
      rw [e]
      simp [findV, knownV, hh]
    | false =>
      have e : dueL x (l :: ls) = dueL x ls := by simp [dueL, hh]
      rw [e, ← h1, ← h2]
      simp [findV, knownV, hh]
theorem due_pl (h : Fls σ fl fvs lvs) : ∀ v ∈ dueL x lvs, pl 9 v = true := by
  induction h with
  | nil => intro v hv; cases hv
  | @cons q t l vs ls e1 e2 e3 e4 e5 e6 _ ih =>
    intro v hv
    simp only [dueL, List.mem_filterMap] at hv
    obtain ⟨l', hl', e⟩ := hv
    rcases List.mem_cons.mp hl' with rfl | hl'
    · split at e
      · cases e
        unfold Lv.val
        cases hq : lk x l'.ps with
        | some w => exact e6 x w hq
        | none => rfl
      · cases e
    · exact ih v (by simp only [dueL, List.mem_filterMap]; exact ⟨l', hl', e⟩)
theorem fls_len (h : Fls σ fl fvs lvs) : fvs.length = lvs.length := by
  induction h with
  | nil => rfl
  | cons _ _ _ _ _ _ _ ih => simp [ih]
theorem Fls.app {g : List AO} (h : Fls σ fl fvs lvs) : Fls (σ ++ g) fl fvs lvs :=
  h.on (fun i y _ _ e _ => by rw [List.getElem?_append_left (List.getElem?_eq_some_iff.mp e).1]; exact e) (fun i ps e => by rw [List.getElem?_append_left (List.getElem?_eq_some_iff.mp e).1]; exact e)
theorem u_stmt (hxs : pl 9 (.str x) = true) (hcX : σ[N]? = some (.cell (some (.str x)))) (hfl : σ[fl]? = some (.list fvs.reverse)) (hlf : lk "floors" m = some (.loc fl)) (F : Fls σ fl fvs lvs) (hz : lvs.length ≤ 50) (hm : put "due" (.loc (σ.length + 2)) m = m') :
    ∃ σ', S1 G (cxS N) m σ uStmt .next m' σ' ∧ (∀ i y, i < σ.length → σ[i]? = some y → σ'[i]? = some y) ∧ σ'[σ.length + 2]? = some (.list (dueL x lvs)) := by
  obtain ⟨q0, q1, hk, hsw⟩ := uStmt_is
  obtain ⟨u0, u1, u2, u3, u4, u5, u6, u7, u8, r1, r2, r3, r4, r5, r6, r7, hc⟩ := uComp_is
  rw [hk, hc]
  rw [hc] at hsw
  have len := fls_len F
  have hj : (σ ++ [AO.list fvs])[σ.length]? = some (.list fvs) := at_push rfl
  have H : LD (σ ++ [AO.list fvs] ++ [.lit σ.length 0] ++ [.list []] ++ [.ns []]) (σ ++ [AO.list fvs]) σ.length (σ.length + 1) 0 [] :=
    ⟨fun i y _ e => at_old (at_old (at_old e)), at_old (at_old (at_push (by simp))), at_old (at_push (by simp)), ⟨[], at_push (by simp), fun u v => by
      have h1 : put "here" u [] = [(("here" : PySem.Str), u)] := rfl
      rw [h1]
      kwd_less⟩⟩
  obtain ⟨σ', h3, f3, l3, mb, n3⟩ := lp_due (G := G) (m := m) (q0 := u0) (q1 := u1) (q2 := u2) (r1 := r1) (r2 := r2) (r3 := r3) (r4 := r4) (r5 := r5) (r6 := r6) (r7 := r7) (N := N) (fl := fl) hxs (by simp) (at_old hcX) hj lvs 0 _ [] (by simpa using F.app) H (by simp; omega)
  have hit : Ev G (cxS N) m σ (.Subscript (.Name "floors" u3) (.Slice none none (some (.UnaryOp .USub (.Constant (.int 1) 0 u4) u5)) u6) u7) (.loc σ.length) (σ ++ [AO.list fvs]) := by
    have h := ev_sl_rev (G := G) (c := cxS N) (m := m) (l := .Name "floors" u3) (σ₁ := σ) (k := 0) (cp := u4) (up := u5) (sp := u6) (pos := u7) (by kpt_turns) hfl rfl (by simp; omega) (by intro _ _; rfl)
    rw [List.reverse_reverse] at h
    exact h
  refine ⟨_, s_assign_comp (n := σ.length + 2) (cs := [("name", N)]) (mb := mb) (σ₃ := σ') (σ₄ := σ') ?_ ?_ ?_ ?_ hit (pi_list hj (by simp)) (by simp) (pi_lit (j := σ.length) (k := 0) H.lit) h3 ?_ n3 n3 (hsw N) (by intro _ _; rfl), fun i y hi e => at_set_ne (by kwd_inv) (f3 i y (by kwd_inv) (at_old e)), at_set_ne (by kwd_inv) ?_⟩
  · kernel_rfl!
  · kernel_rfl!
  · kernel_rfl!
  · kernel_rfl!
  · refine sn_put rfl ?_ hm
    kernel_rfl!
  · rw [l3]; simp
theorem Chain.app {g : List AO} (C : Chain σ sv lvs) : Chain (σ ++ g) sv lvs :=
  C.on fun i y e _ _ => by rw [List.getElem?_append_left (List.getElem?_eq_some_iff.mp e).1]; exact e
theorem c_if {dl : List AV} {i is d qd : Nat} {pv tv : AV} (C : Chain σ (.loc is) lvs) (s1 : σ[is]? = some (.inst 152 d)) (s2 : σ[d]? = some (scO pv (.loc qd) tv)) (hxs : PyData.strOk x = true) (hcX : σ[N]? = some (.cell (some (.str x)))) (hd : σ[i]? = some (.list dl)) (hdl : dl = dueL x lvs) (hpl : ∀ v ∈ dl, pl 9 v = true) (hz : dl.length ≤ 100) (hlk : lk "due" m = some (.loc i)) (hls : lk "scope" m = some (.loc is)) :
    S1 G (cxS N) m σ (cBody.getD 1 noStmt) .next m (σ ++ [.list []] ++ [.list []]) := by
  obtain ⟨h1, h2⟩ := find_due (x := x) lvs
  rw [← hdl] at h1 h2
  have hf := cw_find (G := G) C hxs
  have hkn := cw_known (G := G) (C.app (g := [.list []])) hxs
  rw [h1] at hf
  rw [h2] at hkn
  have hp9 : pls 9 dl = true := pls_iff.mpr hpl
  have hd' := at_old (x := AO.list []) hd
  have s1' := at_old (x := AO.list []) s1
  have s2' := at_old (x := AO.list []) s2
  have hcX' := at_old (x := AO.list []) hcX
  have hne : ∀ {τ : List AO} {e : Expr} {p1 p2 : Pos}, τ[i]? = some (.list dl) → Cm G (cxS N) m τ (.Name "due" p1) .NotEq (.List [] p2) (.bool (!dl.isEmpty)) (τ ++ [.list []]) := fun {τ e p1 p2} h => by
    refine' cm_of ?a ?b ?c
    case a => kpt_turns
    case b => kpt_turns
    case c =>
      refine' op_ned (d := .list (pyds dl)) (d' := .list (pyds [])) ?d ?e ?f
      case d => exact rd_list (at_old h) hp9
      case e => exact rd_list (at_push rfl) rfl
      case f =>
        show (!PyData.eqvAll (pyds dl) []) = !dl.isEmpty
        rw [eqvAll_nil, pyds_map]
        simp
  have hv9 : pl 9 ((dl.head?).getD .none) = true := by
    cases dl with
    | nil => rfl
    | cons v r => exact hpl v (by simp)
  refine' s_if_F0 (y := false) ?na ?nb
  case nb => rfl
  case na =>
    refine' tt_bop ?oa
    case oa =>
      refine' at_or_F ?ob ?oc ?od
      case ob =>
        refine' tt_cmp (cm_of (b := (dl.head?).getD .none) (σ₂ := σ ++ [.list []]) ?ua ?ub ?uc) ?ud
        case ua => kpt_turns
        case ub =>
          cases hdd : dl with
          | nil =>
            refine' ev_if_F ?va ?vb ?vc
            case va =>
              refine' tt_cmp (hne (e := .Constant .none 0 default) hd) ?vd
              case vd => with_unfolding_all rfl
            case vb => rw [hdd]; rfl
            case vc => exact ev_none
          | cons v r =>
            refine' ev_if_T ?va ?vb ?vc
            case va =>
              refine' tt_cmp (hne (e := .Constant .none 0 default) hd) ?vd
              case vd => with_unfolding_all rfl
            case vb => rw [hdd]; rfl
            case vc =>
              have hz2 := hz
              rw [hdd] at hd' hz2
              show Ev G (cxS N) m (σ ++ [.list []]) _ v (σ ++ [.list []])
              refine' ev_sub ?za ?zb ?zc
              case za => kpt_turns
              case zb => kpt_turns
              case zc => exact it_list hd' (by decide) rfl (by kwd_inv) (by intro _ _; rfl)
        case uc => exact op_ned (d := pyd ((dl.head?).getD .none)) (d' := pyd ((dl.head?).getD .none)) (rd_val hv9) (rd_val hv9) rfl
        case ud => with_unfolding_all rfl
      case oc => rw [eqv_refl hv9]; rfl
      case od =>
        refine' at_or_F ?oe ?of ?og
        case oe =>
          refine' tt_cmp (cm_of ?wa (ev_cmp (hne (e := .Constant .none 0 default) hd') ?wb) ?wc) ?wd
          case wa => kpt_turns
          case wb => with_unfolding_all rfl
          case wc => exact op_ned (d := pyd (.bool (!dl.isEmpty))) (d' := pyd (.bool (!dl.isEmpty))) (rd_val rfl) (rd_val rfl) rfl
          case wd => with_unfolding_all rfl
        case of => rw [eqv_refl (n := 9) (v := .bool (!dl.isEmpty)) rfl]; rfl
        case og => exact at_or_nil
end
end SC25
section SC26
section
variable {G : Gl} {m m' : List (PySem.Str × AV)} {σ σ0 : List AO} {N nl p P t j fl : Nat} {a b : Int} {tl : List PySem.Str} {sv : AV} {x : PySem.Str} {vs fvs : List AV} {lvs : List Lv}
theorem cBody_is : cBody = [uStmt, cBody.getD 1 noStmt] := by rfl
theorem due_len : ∀ lvs : List Lv, (dueL x lvs).length ≤ lvs.length := fun lvs => List.length_filterMap_le ..
theorem c_turn {is d qd : Nat} {pv tv : AV} (C : Chain σ (.loc is) lvs) (s1 : σ[is]? = some (.inst 152 d)) (s2 : σ[d]? = some (scO pv (.loc qd) tv)) (hxs : PyData.strOk x = true) (hcX : σ[N]? = some (.cell (some (.str x)))) (hfl : σ[fl]? = some (.list fvs.reverse)) (F : Fls σ fl fvs lvs) (hz : lvs.length ≤ 50) (hlf : lk "floors" m = some (.loc fl)) (hls : lk "scope" m = some (.loc is)) :
    ∃ (σ' : List AO) (m' : List (PySem.Str × AV)), Sx G (cxS N) m σ cBody .next m' σ' ∧ lk "floors" m' = some (.loc fl) ∧ lk "scope" m' = some (.loc is) ∧ (∀ (i : Nat) (y : AO), i < σ.length → σ[i]? = some y → σ'[i]? = some y) := by
  obtain ⟨σ', h1, f1, d1⟩ := u_stmt (G := G) (m := m) hxs hcX hfl hlf F hz rfl
  have old : ∀ {i : Nat} {y : AO}, σ[i]? = some y → σ'[i]? = some y := fun {i y} e => f1 i y (List.getElem?_eq_some_iff.mp e).1 e
  have hlf' : lk "floors" (put "due" (.loc (σ.length + 2)) m) = some (.loc fl) := by rw [lk_put_ne (by decide +kernel)]; exact hlf
  have hls' : lk "scope" (put "due" (.loc (σ.length + 2)) m) = some (.loc is) := by rw [lk_put_ne (by decide +kernel)]; exact hls
  have h2 := c_if (G := G) (m := put "due" (.loc (σ.length + 2)) m) (C.on fun i y e _ _ => old e) (old s1) (old s2) hxs (old hcX) d1 rfl (due_pl F) (by have := due_len (x := x) lvs; omega) lk_put_eq hls'
  refine ⟨σ' ++ [.list []] ++ [.list []], _, ?_, hlf', hls', fun i y hi e => at_old (at_old (old e))⟩
  rw [cBody_is]
  exact sx_next h1 (sx_next h2 sx_nil)
structure CL (σ σ0 : List AO) (N nl k : Nat) : Prop where
  fr : ∀ (i : Nat) (y : AO), i ≠ N → σ0[i]? = some y → σ[i]? = some y
  cellX : ∃ v, σ[N]? = some (.cell v)
  lit : σ[σ0.length]? = some (.lit nl k)
theorem c_loop {q0 : Pos} {is d qd : Nat} {pv tv : AV} (B : Sb σ0 N nl) (C : Chain σ0 (.loc is) lvs) (s1 : σ0[is]? = some (.inst 152 d)) (s2 : σ0[d]? = some (scO pv (.loc qd) tv)) (hc0 : ∃ v, σ0[N]? = some (.cell v)) (hfl : σ0[fl]? = some (.list fvs.reverse)) (F : Fls σ0 fl fvs lvs) (hz : lvs.length ≤ 50) :
    ∀ (rest : List PySem.Str) (k : Nat) (σ : List AO) (m : List (PySem.Str × AV)), nms.drop k = rest → CL σ σ0 N nl k → lk "floors" m = some (.loc fl) → lk "scope" m = some (.loc is) →
    ∃ (σ' : List AO) (m' : List (PySem.Str × AV)), Fo G (cxS N) (.Name "name" q0) (.loc σ0.length) cBody m σ .next m' σ' ∧ lk "floors" m' = some (.loc fl) ∧ lk "scope" m' = some (.loc is) ∧ (∀ (i : Nat) (y : AO), i ≠ N → σ0[i]? = some y → σ'[i]? = some y) ∧ (∃ v, σ'[N]? = some (.cell v))
  | [], k, σ, m, hd, H, hlf, hls => by
    have n1 := B.n1
    have nl3 := B.nl3
    have ln := (List.getElem?_eq_some_iff.mp B.names).1
    have hk : nms[k]? = none := by
      rw [List.getElem?_eq_none_iff]
      have : (nms.drop k).length = 0 := by rw [hd]; rfl
      simp at this; omega
    obtain ⟨v, hv⟩ := H.cellX
    exact ⟨_, m, .done (nd_list H.lit (H.fr nl _ (by kwd_inv) B.names) (by simp [hk])), hlf, hls, fun i y h1 e => at_set_ne (by have := (List.getElem?_eq_some_iff.mp e).1; omega) (H.fr i y h1 e), ⟨v, at_set_ne (by kwd_inv) hv⟩⟩
  | x :: rest, k, σ, m, hd, H, hlf, hls => by
    have n1 := B.n1
    have nl3 := B.nl3
    have ln := (List.getElem?_eq_some_iff.mp B.names).1
    have hk : nms[k]? = some x := by rw [← List.head?_drop, hd]; rfl
    have hx : x ∈ nms := List.mem_of_getElem? hk
    have hd' : nms.drop (k + 1) = rest := by rw [← List.tail_drop, hd]; rfl
    obtain ⟨v, hv⟩ := H.cellX
    obtain ⟨v0, hv0⟩ := hc0
    have hxs : PyData.strOk x = true := by
      have := pls_up (pls_nms (tl := [x]) (fun y hy => by rw [List.mem_singleton.mp hy]; exact hx))
      simpa [pls, pl] using this
    have hsn : (dScope (atTop 26)).names.lookup ("name" : PySem.Str) = some .cell := by kernel_rfl!
    have hdr : Dr G (cxS N) m σ (.Name "name" q0) (.loc σ0.length) m ((σ.set σ0.length (.lit nl (k + 1))).set N (.cell (some (.str x)))) :=
      dr_list H.lit (H.fr nl _ (by kwd_inv) B.names) (v := .str x) (by simp [hk]) (as_name (sn_cellF hsn (by kt_ors) (at_set_ne (by kwd_inv) hv))) (by intro _ _; rfl)
    generalize hσ1 : (σ.set σ0.length (.lit nl (k + 1))).set N (.cell (some (.str x))) = σ1 at hdr
    have fr1 : ∀ (i : Nat) (y : AO), i ≠ N → σ0[i]? = some y → σ1[i]? = some y := fun i y h1 e => by
      have := (List.getElem?_eq_some_iff.mp e).1
      rw [← hσ1]
      exact at_set_ne (Ne.symm h1) (at_set_ne (by kwd_inv) (H.fr i y h1 e))
    have nc : ∀ {i : Nat} {y : AO}, σ0[i]? = some y → (∀ v, y ≠ .cell v) → i ≠ N := fun {i y} e h q => by
      rw [q, hv0] at e
      exact h v0 (Option.some.inj e).symm
    have hcX : σ1[N]? = some (.cell (some (.str x))) := by rw [← hσ1]; exact at_set_eq (at_set_ne (by kwd_inv) hv)
    have hlit : σ1[σ0.length]? = some (.lit nl (k + 1)) := by rw [← hσ1]; exact at_set_ne (by kwd_inv) (at_set_eq H.lit)
    have C1 : Chain σ1 (.loc is) lvs := C.on fun i y e _ h => fr1 i y (nc e h) e
    have F1 : Fls σ1 fl fvs lvs := F.on (fun i y _ _ e h => fr1 i y (nc e h) e) fun i ps e => fr1 i _ (nc e (fun v q => by cases q)) e
    obtain ⟨σ2, m2, h1, f2, s2', k2⟩ := c_turn (G := G) (m := m) (N := N) C1 (fr1 _ _ (nc s1 (fun v q => by cases q)) s1) (fr1 _ _ (nc s2 (fun v q => by cases q)) s2) hxs hcX (fr1 _ _ (nc hfl (fun v q => by cases q)) hfl) F1 hz hlf hls
    have old : ∀ {i : Nat} {y : AO}, σ1[i]? = some y → σ2[i]? = some y := fun {i y} e => k2 i y (List.getElem?_eq_some_iff.mp e).1 e
    obtain ⟨σ', m', h3, f3, s3, k3, c3⟩ := c_loop (q0 := q0) B C s1 s2 ⟨v0, hv0⟩ hfl F hz rest (k + 1) σ2 m2 hd' ⟨fun i y h e => old (fr1 i y h e), ⟨_, old hcX⟩, old hlit⟩ f2 s2'
    exact ⟨σ', m', .turn hdr h1 h3, f3, s3, k3, c3⟩
theorem c_for {is d qd : Nat} {pv tv : AV} (B : Sb σ N nl) (C : Chain σ (.loc is) lvs) (s1 : σ[is]? = some (.inst 152 d)) (s2 : σ[d]? = some (scO pv (.loc qd) tv)) (hc0 : ∃ v, σ[N]? = some (.cell v)) (hfl : σ[fl]? = some (.list fvs.reverse)) (F : Fls σ fl fvs lvs) (hz : lvs.length ≤ 50) (hlf : lk "floors" m = some (.loc fl)) (hls : lk "scope" m = some (.loc is)) :
    ∃ (σ' : List AO) (m' : List (PySem.Str × AV)), S1 G (cxS N) m σ cFor .next m' σ' ∧ lk "floors" m' = some (.loc fl) ∧ lk "scope" m' = some (.loc is) ∧ (∀ (i : Nat) (y : AO), i ≠ N → σ[i]? = some y → σ'[i]? = some y) ∧ (∃ v, σ'[N]? = some (.cell v)) := by
  obtain ⟨q0, q1, q2, hk⟩ := cFor_is
  rw [hk]
  obtain ⟨v, hv⟩ := hc0
  obtain ⟨σ', m', h, f, s, kk, c⟩ := c_loop (G := G) (q0 := q0) B C s1 s2 ⟨v, hv⟩ hfl F hz nms 0 (σ ++ [.lit nl 0]) m rfl ⟨fun i y _ e => at_old e, ⟨v, at_old hv⟩, at_push rfl⟩ hlf hls
  refine ⟨σ', m', ?_, f, s, kk, c⟩
  have hcN := B.cellN
  refine s_for (a := .loc nl) ?_ (pi_list B.names rfl) h (by intro _ _; rfl)
  kpt_turns
end
end SC26
section SC27
theorem at_old2' {x y z : AO} {l r : List AO} {k : Nat} (h : l[k]? = some z) : (l ++ x :: y :: r)[k]? = some z := by
  rw [List.getElem?_append_left (List.getElem?_eq_some_iff.mp h).1]; exact h


local macro_rules | `(tactic| ktu_offI) => `(tactic|
  first
    | with_reducible refine' cl_Scope
      )

section
variable {G : Gl} {m m' : List (PySem.Str × AV)} {σ σ0 : List AO} {N nl p P t j fl : Nat} {a b : Int} {tl : List PySem.Str} {x : PySem.Str} {vs fvs : List AV} {lvs : List Lv} {is d qd : Nat} {pv tv : AV}
structure OI (σ : List AO) (N nl fl : Nat) (m : List (PySem.Str × AV)) (lvs : List Lv) (fvs : List AV) (is d qd : Nat) (pv tv : AV) : Prop where
  B : Sb σ N nl
  nf : nl < fl
  c0 : ∃ v, σ[N]? = some (.cell v)
  fls : σ[fl]? = some (.list fvs.reverse)
  F : Fls σ fl fvs lvs
  C : Chain σ (.loc is) lvs
  s1 : σ[is]? = some (.inst 152 d)
  s2 : σ[d]? = some (scO pv (.loc qd) tv)
  hlf : lk "floors" m = some (.loc fl)
  hls : lk "scope" m = some (.loc is)
theorem oBody_is : oBody = [oBody.headD noStmt, pFor, oBody.getD 2 noStmt, oBody.getD 3 noStmt, cFor] := by rfl
theorem o_turn (I : OI σ N nl fl m lvs fvs is d qd pv tv) (hz : lvs.length ≤ 40) (hlt : lk "told" m = some (.loc t)) (hT : σ[t]? = some (.list (tl.map AV.str))) (htl : ∀ x ∈ tl, x ∈ nms) (htz : tl.length ≤ 4) (htf : fl < t) :
    ∃ σ' m' lvs' fvs' is' d' qd' pv' tv', Sx G (cxS N) m σ oBody .next m' σ' ∧ OI σ' N nl fl m' lvs' fvs' is' d' qd' pv' tv' ∧ lvs'.length = lvs.length + 1 ∧ (∀ (i : Nat) (y : AO), i ≠ 1 → i ≠ N → i ≠ fl → σ[i]? = some y → σ'[i]? = some y) := by
  obtain ⟨B, nf, c0, hfl, F, C, s1, s2, hlf, hls⟩ := I
  have n1 := B.n1
  have nl3 := B.nl3
  have lt := (List.getElem?_eq_some_iff.mp hT).1
  obtain ⟨a, b, hkeg⟩ := B.keg
  obtain ⟨v0, hv0⟩ := c0
  -- places = {}
  have h0 : S1 G (cxS N) m σ (oBody.headD noStmt) .next (put "places" (.loc σ.length) m) (σ ++ [.dict []]) := by
    refine' s_assign ?a ?b ?c
    case a => kpt_turns
    case b =>
      refine sn_put rfl ?_ rfl
      kernel_rfl!
    case c => intro _; rfl
  have m1t : lk "told" (put "places" (.loc σ.length) m) = some (.loc t) := by rw [lk_put_ne (by decide +kernel)]; exact hlt
  have m1f : lk "floors" (put "places" (.loc σ.length) m) = some (.loc fl) := by rw [lk_put_ne (by decide +kernel)]; exact hlf
  have m1s : lk "scope" (put "places" (.loc σ.length) m) = some (.loc is) := by rw [lk_put_ne (by decide +kernel)]; exact hls
  have m1p : lk "places" (put "places" (.loc σ.length) m) = some (.loc σ.length) := lk_put_eq
  generalize hm1 : put "places" (.loc σ.length) m = m1 at h0 m1t m1f m1s m1p
  have B1 : Sb (σ ++ [.dict []]) N nl := B.on (fun i y _ _ e => at_old e) ⟨a, b, at_old hkeg⟩
  obtain ⟨σ2, ps, h1, f2, k2, c2, d2, z2, pp2, len2⟩ := p_for (G := G) (m := m1) (P := σ.length) (t := t) (tl := tl) B1 (by have := (List.getElem?_eq_some_iff.mp B.names).1; omega) (by simp) (by kwd_inv) (by kwd_inv) lt htl m1t m1p (at_old hT) (at_push rfl) ⟨v0, at_old hv0⟩
  have o2 : ∀ {i : Nat} {y : AO}, i ≠ 1 → i ≠ N → σ[i]? = some y → σ2[i]? = some y := fun {i y} e1 e2 e => by
    have li := (List.getElem?_eq_some_iff.mp e).1
    exact f2 i y e1 e2 (by kwd_inv) (by simp; omega) (at_old e)
  simp only [List.length_append, List.length_cons, List.length_nil] at len2
  have hT2 := o2 (by kwd_inv) (by kwd_inv) hT
  have hz' : (tl.map AV.str).length ≤ 4 := by simpa using htz
  -- scope = Scope(..)
  have h2 : S1 G (cxS N) m1 σ2 (oBody.getD 2 noStmt) .next (put "scope" (.loc (σ2.length + 1)) m1) (σ2 ++ [scO (.loc is) (.loc σ.length) (.tup (tl.map AV.str)), .inst 152 σ2.length]) := by
    refine' s_assign ?a ?b ?c
    case a => kpt_turns
    case b =>
      refine sn_put rfl ?_ rfl
      kernel_rfl!
    case c => intro _; rfl
  have m2t : lk "told" (put "scope" (.loc (σ2.length + 1)) m1) = some (.loc t) := by rw [lk_put_ne (by decide +kernel)]; exact m1t
  have m2f : lk "floors" (put "scope" (.loc (σ2.length + 1)) m1) = some (.loc fl) := by rw [lk_put_ne (by decide +kernel)]; exact m1f
  have m2p : lk "places" (put "scope" (.loc (σ2.length + 1)) m1) = some (.loc σ.length) := by rw [lk_put_ne (by decide +kernel)]; exact m1p
  have m2s : lk "scope" (put "scope" (.loc (σ2.length + 1)) m1) = some (.loc (σ2.length + 1)) := lk_put_eq
  generalize hm2 : put "scope" (.loc (σ2.length + 1)) m1 = m2 at h2 m2t m2f m2p m2s
  have hfl3 : (σ2 ++ [scO (.loc is) (.loc σ.length) (.tup (tl.map AV.str)), .inst 152 σ2.length])[fl]? = some (.list fvs.reverse) := at_old2' (o2 (by kwd_inv) (by kwd_inv) hfl)
  have lenF := fls_len F
  have hzr : fvs.reverse.length ≤ 1000 := by simp; omega
  have h3 : S1 G (cxS N) m2 (σ2 ++ [scO (.loc is) (.loc σ.length) (.tup (tl.map AV.str)), .inst 152 σ2.length]) (oBody.getD 3 noStmt) .next m2 ((σ2 ++ [scO (.loc is) (.loc σ.length) (.tup (tl.map AV.str)), .inst 152 σ2.length]).set fl (.list (fvs.reverse ++ [.tup [.loc σ.length, .loc t]]))) := by
    refine' s_expr ?a ?b ?c
    case a => kpt_turns
    case b => rfl
    case c => intro _; rfl
  generalize hσ4 : (σ2 ++ [scO (.loc is) (.loc σ.length) (.tup (tl.map AV.str)), .inst 152 σ2.length]).set fl (.list (fvs.reverse ++ [.tup [.loc σ.length, .loc t]])) = σ4 at h3
  have lfl := (List.getElem?_eq_some_iff.mp hfl).1
  have o4' : ∀ {i : Nat} {y : AO}, i ≠ fl → σ2[i]? = some y → σ4[i]? = some y := fun {i y} e1 e => by
    rw [← hσ4]; exact at_set_ne (Ne.symm e1) (at_old2' e)
  have o4 : ∀ {i : Nat} {y : AO}, i ≠ 1 → i ≠ N → i ≠ fl → σ[i]? = some y → σ4[i]? = some y := fun {i y} e1 e2 e3 e => o4' e3 (o2 e1 e2 e)
  have nl' : ∀ {i : Nat} {y : AO}, σ[i]? = some y → (∀ vs, y ≠ .list vs) → i ≠ 1 ∧ i ≠ fl := fun {i y} e h => ⟨fun q => by rw [q, hkeg] at e; exact h _ (Option.some.inj e).symm, fun q => by rw [q, hfl] at e; exact h _ (Option.some.inj e).symm⟩
  have nc : ∀ {i : Nat} {y : AO}, σ[i]? = some y → (∀ v, y ≠ .cell v) → i ≠ N := fun {i y} e h q => by
    rw [q, hv0] at e; exact h v0 (Option.some.inj e).symm
  have hfl4 : σ4[fl]? = some (.list ((AV.tup [.loc σ.length, .loc t] :: fvs).reverse)) := by
    rw [← hσ4, at_set_eq hfl3]; simp
  obtain ⟨a2, b2, k2'⟩ := k2
  obtain ⟨v2, c2'⟩ := c2
  have B4 : Sb σ4 N nl := ⟨n1, nl3, ⟨a2, b2, o4' (by kwd_inv) k2'⟩, o4 (by kwd_inv) (by kwd_inv) (by kwd_inv) B.cellK, o4 (by kwd_inv) (by kwd_inv) (by kwd_inv) B.cellN, o4 (by kwd_inv) (by kwd_inv) (by kwd_inv) B.names⟩
  have hsc : σ4[σ2.length]? = some (scO (.loc is) (.loc σ.length) (.tup (tl.map AV.str))) := by rw [← hσ4]; exact at_set_ne (by kwd_inv) (by simp)
  have hin : σ4[σ2.length + 1]? = some (.inst 152 σ2.length) := by rw [← hσ4]; exact at_set_ne (by kwd_inv) (by simp)
  have hd4 : σ4[σ.length]? = some (.dict ps) := o4' (by kwd_inv) d2
  have C0 : Chain σ4 (.loc is) lvs := C.on fun i y e hl hc => o4 (nl' e hl).1 (nc e hc) (nl' e hl).2 e
  have C4 : Chain σ4 (.loc (σ2.length + 1)) (⟨ps, tl⟩ :: lvs) := .cons (l := ⟨ps, tl⟩) hin hsc hd4 (pls_nms htl) C0
  have F0 : Fls σ4 fl fvs lvs := F.on (fun i y e1 e2 e hc => o4 e1 (nc e hc) e2 e) fun i ps e => o4 (nl' e (fun _ q => by cases q)).1 (nc e (fun _ q => by cases q)) (nl' e (fun _ q => by cases q)).2 e
  have F4 : Fls σ4 fl (.tup [.loc σ.length, .loc t] :: fvs) (⟨ps, tl⟩ :: lvs) := .cons (l := ⟨ps, tl⟩) hd4 (o4 (by kwd_inv) (by kwd_inv) (by kwd_inv) hT) htl (by kwd_inv) (by kwd_inv) pp2 F0
  have c4 : σ4[N]? = some (.cell v2) := o4' (by kwd_inv) c2'
  obtain ⟨σ5, m5, h4, f5, s5, k5, c5⟩ := c_for (G := G) (m := m2) B4 C4 hin hsc ⟨_, c4⟩ hfl4 F4 (by simp; omega) m2f m2s
  have nc4 : ∀ {i : Nat} {y : AO}, σ4[i]? = some y → (∀ v, y ≠ .cell v) → i ≠ N := fun {i y} e h q => by
    rw [q, c4] at e; exact h v2 (Option.some.inj e).symm
  have k5' : ∀ {i : Nat} {y : AO}, i ≠ N → σ4[i]? = some y → σ5[i]? = some y := fun {i y} h e => k5 i y h e
  refine ⟨σ5, m5, ⟨ps, tl⟩ :: lvs, .tup [.loc σ.length, .loc t] :: fvs, σ2.length + 1, σ2.length, σ.length, .loc is, .tup (tl.map AV.str), ?_, ?_, by simp, fun i y e1 e2 e3 e => k5 i y e2 (o4 e1 e2 e3 e)⟩
  · rw [oBody_is]
    exact sx_next h0 (sx_next h1 (sx_next h2 (sx_next h3 (sx_next h4 sx_nil))))
  · exact ⟨⟨n1, nl3, ⟨a2, b2, k5' (by kwd_inv) (o4' (by kwd_inv) k2')⟩, k5' (by kwd_inv) B4.cellK, k5' (by kwd_inv) B4.cellN, k5' (by kwd_inv) B4.names⟩, nf, c5, k5' (by kwd_inv) hfl4, F4.on (fun i y _ _ e hc => k5' (nc4 e hc) e) (fun i ps e => k5' (nc4 e (fun _ q => by cases q)) e), C4.on fun i y e _ hc => k5' (nc4 e hc) e, k5' (by kwd_inv) hin, k5' (by kwd_inv) hsc, f5, s5⟩
end
end SC27
section SC28
section
variable {G : Gl} {m m' : List (PySem.Str × AV)} {σ σ0 : List AO} {N nl p P t j fl q tg : Nat} {a b : Int} {tl : List PySem.Str} {x : PySem.Str} {vs fvs : List AV} {lvs : List Lv} {is d qd : Nat} {pv tv : AV}
theorem Chain.on2 {σ' : List AO} (h : ∀ (i : Nat) (y : AO), (∀ j k, y ≠ .lit j k) → σ[i]? = some y → σ'[i]? = some y) {sv : AV} (C : Chain σ sv lvs) : Chain σ' sv lvs := by
  induction C with
  | nil => exact .nil
  | cons e1 e2 e3 e4 _ ih => exact .cons (h _ _ (fun _ _ q => by cases q) e1) (h _ _ (fun _ _ q => by cases q) e2) (h _ _ (fun _ _ q => by cases q) e3) e4 ih
theorem OI.on {σ' : List AO} (I : OI σ N nl fl m lvs fvs is d qd pv tv) (h : ∀ (i : Nat) (y : AO), (∀ j k, y ≠ .lit j k) → σ[i]? = some y → σ'[i]? = some y) : OI σ' N nl fl m lvs fvs is d qd pv tv := by
  obtain ⟨B, nf, c0, hfl, F, C, s1, s2, hlf, hls⟩ := I
  obtain ⟨a, b, hkeg⟩ := B.keg
  obtain ⟨v, hv⟩ := c0
  refine ⟨⟨B.n1, B.nl3, ⟨a, b, h _ _ (fun _ _ q => by cases q) hkeg⟩, h _ _ (fun _ _ q => by cases q) B.cellK, h _ _ (fun _ _ q => by cases q) B.cellN, h _ _ (fun _ _ q => by cases q) B.names⟩, nf, ⟨v, h _ _ (fun _ _ q => by cases q) hv⟩, h _ _ (fun _ _ q => by cases q) hfl, ?_, ?_, h _ _ (fun _ _ q => by cases q) s1, h _ _ (fun _ _ q => by cases q) s2, hlf, hls⟩
  · clear hfl hlf hls s1 s2 C hkeg hv
    induction F with
    | nil => exact .nil
    | cons e1 e2 e3 e4 e5 e6 _ ih => exact .cons (h _ _ (fun _ _ q => by cases q) e1) (h _ _ (fun _ _ q => by cases q) e2) e3 e4 e5 e6 ih
  · exact C.on2 h
theorem OI.told {t : AV} (I : OI σ N nl fl m lvs fvs is d qd pv tv) : OI σ N nl fl (put "told" t m) lvs fvs is d qd pv tv :=
  ⟨I.B, I.nf, I.c0, I.fls, I.F, I.C, I.s1, I.s2, by rw [lk_put_ne (by decide +kernel)]; exact I.hlf, by rw [lk_put_ne (by decide +kernel)]; exact I.hls⟩
theorem oFor_is : ∃ q0 q1 q2, oFor = .For (.Name "told" q0) (.Name "told_global" q1) oBody [] q2 := ⟨_, _, _, rfl⟩
theorem o_loop {q0 : Pos} {ia : List Nat} (htg : fl < tg) (hq : fl < q) (hqt : q ≠ tg) : ∀ (rest : List Nat) (tls : List (List PySem.Str)) (k : Nat) (σ : List AO) (m : List (PySem.Str × AV)) (lvs : List Lv) (fvs : List AV) (is d qd : Nat) (pv tv : AV),
    ia.drop k = rest → Tls σ fl rest tls → OI σ N nl fl m lvs fvs is d qd pv tv → σ[q]? = some (.lit tg k) → σ[tg]? = some (.list (ia.map AV.loc)) → lvs.length + rest.length ≤ 40 →
    ∃ σ' m', Fo G (cxS N) (.Name "told" q0) (.loc q) oBody m σ .next m' σ'
  | [], tls, k, σ, m, lvs, fvs, is, d, qd, pv, tv, hd, T, I, hl, htl, hz => by
    have hk : ia[k]? = none := by
      rw [List.getElem?_eq_none_iff]
      have : (ia.drop k).length = 0 := by rw [hd]; rfl
      simp at this; omega
    exact ⟨_, m, .done (nd_list hl htl (by simp [hk]))⟩
  | t :: rest, tls, k, σ, m, lvs, fvs, is, d, qd, pv, tv, hd, T, I, hl, htl, hz => by
    have hk : ia[k]? = some t := by rw [← List.head?_drop, hd]; rfl
    have hd' : ia.drop (k + 1) = rest := by rw [← List.tail_drop, hd]; rfl
    have n1 := I.B.n1
    have nl3 := I.B.nl3
    have nf := I.nf
    cases T with
    | @cons _ tl _ tls T1 T2 =>
    have hsn : (dScope (atTop 26)).names.lookup ("told" : PySem.Str) = some .local := by kernel_rfl!
    have hdr : Dr G (cxS N) m σ (.Name "told" q0) (.loc q) (put "told" (.loc t) m) (σ.set q (.lit tg (k + 1))) :=
      dr_list hl htl (v := .loc t) (by simp [hk]) (as_name (sn_put rfl hsn rfl)) (by intro _ _; rfl)
    have st : ∀ (i : Nat) (y : AO), (∀ j k, y ≠ .lit j k) → σ[i]? = some y → (σ.set q (.lit tg (k + 1)))[i]? = some y := fun i y h e => at_set_ne (fun w => by rw [← w, hl] at e; exact h _ _ (Option.some.inj e).symm) e
    have I1 := (I.on st).told (t := .loc t)
    obtain ⟨σ2, m2, lvs2, fvs2, is2, d2, qd2, pv2, tv2, h1, I2, e2, f2⟩ := o_turn (G := G) (t := t) (tl := tl) I1 (by simp at hz; omega) lk_put_eq (st _ _ (fun _ _ q => by cases q) T1.1) T1.2.1 T1.2.2.1 T1.2.2.2
    have T3 : Tls σ2 fl rest tls := T2.on fun i y hi e q => by
      obtain ⟨vs, rfl⟩ := q
      exact f2 i _ (by kwd_inv) (by kwd_inv) (by kwd_inv) (st i _ (fun _ _ q => by cases q) e)
    obtain ⟨σ', m', h2⟩ := o_loop htg hq hqt rest tls (k + 1) σ2 m2 lvs2 fvs2 is2 d2 qd2 pv2 tv2 hd' T3 I2 (f2 _ _ (by kwd_inv) (by kwd_inv) (by kwd_inv) (at_set_eq hl)) (f2 _ _ (by kwd_inv) (by kwd_inv) (by kwd_inv) (st _ _ (fun _ _ q => by cases q) htl)) (by simp at hz; omega)
    exact ⟨σ', m', .turn hdr h1 h2⟩
theorem sBody_is : dBody (atTop 26) = [(dBody (atTop 26)).headD noStmt, (dBody (atTop 26)).getD 1 noStmt, tgStmt, oFor, (dBody (atTop 26)).getD 4 noStmt] := by rfl
theorem sc_01 (hN : σ.length = N) {s0 s1 : Stmt} (e0 : s0 = (dBody (atTop 26)).headD noStmt) (e1 : s1 = (dBody (atTop 26)).getD 1 noStmt) {ss : List Stmt} {fl' : AF} {σ' : List AO}
    (h : Sx G (cxS N) (mS0 N) (σ ++ [.cell none, .cell (some (.loc (N + 3))), .cell (some (.loc 1)), .list (nms.map AV.str), .list [.tup [.loc (N + 8), .loc (N + 9)]], .dict lv0.ps, scO .none (.loc (N + 5)) (.tup []), .inst 152 (N + 6), .dict lv0.ps, .list []]) ss fl' m' σ') :
    Sx G (cxS N) [] (σ ++ [.cell none, .cell none, .cell (some (.loc 1))]) (s0 :: s1 :: ss) fl' m' σ' := by
  have h0 := sc_0 (G := G) hN
  have h1 := sc_1 (G := G) hN
  rw [← e0] at h0
  rw [← e1] at h1
  exact sx_next h0 (sx_next h1 h)
noncomputable abbrev TT (σ : List AO) : List AO := σ ++ [AO.cell none, .cell (some (.loc (σ.length + 3))), .cell (some (.loc 1)), .list (nms.map AV.str), .list [.tup [.loc (σ.length + 8), .loc (σ.length + 9)]], .dict lv0.ps, scO .none (.loc (σ.length + 5)) (.tup []), .inst 152 (σ.length + 6), .dict lv0.ps, .list []]
theorem TT_at {i : Nat} {y : AO} (h : [AO.cell none, .cell (some (.loc (σ.length + 3))), .cell (some (.loc 1)), .list (nms.map AV.str), .list [.tup [.loc (σ.length + 8), .loc (σ.length + 9)]], .dict lv0.ps, scO .none (.loc (σ.length + 5)) (.tup []), .inst 152 (σ.length + 6), .dict lv0.ps, .list []][i]? = some y) : (TT σ)[σ.length + i]? = some y := by
  rw [List.getElem?_append_right (by kwd_inv), Nat.add_sub_cancel_left]; exact h
theorem TT_len : (TT σ).length = σ.length + 10 := by rw [List.length_append]; rfl
theorem TT_B (hk : σ[1]? = some (.list [.int a, .int b])) : Sb (TT σ) σ.length (σ.length + 3) := by
  have l1 := (List.getElem?_eq_some_iff.mp hk).1
  exact ⟨by omega, by omega, ⟨a, b, by rw [List.getElem?_append_left l1]; exact hk⟩, TT_at (i := 2) rfl, TT_at (i := 1) rfl, TT_at (i := 3) rfl⟩
theorem lv0_pp : ∀ x v, lk x lv0.ps = some v → pl 9 v = true := fun x v h => by
  simp only [lv0, lk] at h
  split at h
  · cases h; kernel_rfl!
  · cases h
theorem TT_I {σ3 : List AO} (hk : 1 < σ.length) (o : ∀ {i : Nat} {y : AO}, i ≠ 1 → (TT σ)[i]? = some y → σ3[i]? = some y) (k2 : ∃ a b : Int, σ3[1]? = some (.list [.int a, .int b])) :
    OI σ3 σ.length (σ.length + 3) (σ.length + 4) (mS1 σ.length tg) [lv0] [.tup [.loc (σ.length + 8), .loc (σ.length + 9)]] (σ.length + 7) (σ.length + 6) (σ.length + 5) .none (.tup []) :=
  ⟨⟨hk, by omega, k2, o (by kwd_inv) (TT_at (i := 2) rfl), o (by kwd_inv) (TT_at (i := 1) rfl), o (by kwd_inv) (TT_at (i := 3) rfl)⟩, by omega, ⟨_, o (by kwd_inv) (TT_at (i := 0) rfl)⟩, o (by kwd_inv) (TT_at (i := 4) rfl),
    .cons (l := lv0) (o (by kwd_inv) (TT_at (i := 8) rfl)) (o (by kwd_inv) (TT_at (i := 9) rfl)) (by simp) (by kwd_inv) (by kwd_inv) lv0_pp .nil,
    .cons (l := lv0) (o (by kwd_inv) (TT_at (i := 7) rfl)) (o (by kwd_inv) (TT_at (i := 6) rfl)) (o (by kwd_inv) (TT_at (i := 5) rfl)) rfl .nil, o (by kwd_inv) (TT_at (i := 7) rfl), o (by kwd_inv) (TT_at (i := 6) rfl), by kwd_rel, by kwd_rel⟩
theorem sc_rest (hk : σ[1]? = some (.list [.int a, .int b])) : ∃ m4 σ4, Sx G (cxS σ.length) (mS0 σ.length) (TT σ) [tgStmt, oFor, (dBody (atTop 26)).getD 4 noStmt] (.ret (.bool true)) m4 σ4 := by
  have l1 := (List.getElem?_eq_some_iff.mp hk).1
  have lT := TT_len (σ := σ)
  obtain ⟨σ3, tg, ia, tls, h2, f2, k2, l2, t2, z2, gt2⟩ := sc_2 (G := G) (TT_B hk)
  have I := TT_I (tg := tg) l1 (fun {i y} h e => f2 i y h (List.getElem?_eq_some_iff.mp e).1 e) k2
  obtain ⟨q0, q1, q2, hF⟩ := oFor_is
  have l3 := (List.getElem?_eq_some_iff.mp l2).1
  rw [lT] at t2 gt2
  obtain ⟨σ4, m4, h3⟩ := o_loop (G := G) (q0 := q0) (ia := ia) (fl := σ.length + 4) (tg := tg) (q := σ3.length) (by kwd_inv) (by kwd_inv) (by kwd_inv) ia tls 0 (σ3 ++ [.lit tg 0]) (mS1 σ.length tg) _ _ _ _ _ _ _ rfl ((t2.low (by kwd_inv)).on fun i y _ e _ => at_old e) (I.on fun i y _ e => at_old e) (at_push rfl) (at_old l2) (by simp; omega)
  have h3' : S1 G (cxS σ.length) (mS1 σ.length tg) σ3 oFor .next m4 σ4 := by
    rw [hF]
    refine s_for (a := .loc tg) ?_ (pi_list l2 rfl) h3 (by intro _ _; rfl)
    kpt_turns
  have h4 : S1 G (cxS σ.length) m4 σ4 ((dBody (atTop 26)).getD 4 noStmt) (.ret (.bool true)) m4 σ4 := by
    refine' s_ret ?a
    case a => kpt_turns
  exact ⟨m4, σ4, sx_next h2 (sx_next h3' (sx_stop h4 (by intro q; cases q)))⟩
theorem sc_body (hk : σ[1]? = some (.list [.int a, .int b])) : ∃ m4 σ4, Sx G (cxS σ.length) [] (σ ++ [.cell none, .cell none, .cell (some (.loc 1))]) (dBody (atTop 26)) (.ret (.bool true)) m4 σ4 := by
  obtain ⟨m4, σ4, h⟩ := sc_rest (G := G) hk
  refine ⟨m4, σ4, ?_⟩
  rw [sBody_is]
  exact sc_01 rfl rfl rfl h
theorem cl_scopes (hk : σ[1]? = some (.list [.int a, .int b])) : ∃ τ, Cl G 6 (.ref 328) [.loc 1] σ (.bool true) τ := by
  obtain ⟨m4, σ4, hb⟩ := sc_body (G := G) hk
  refine ⟨σ4, ?_⟩
  refine cl_defC (xs := ["keg"]) (cs := [("name", σ.length), ("names", σ.length + 1), ("keg", σ.length + 2)]) (ca := [.cell none, .cell none, .cell (some (.loc 1))]) (ml := []) ho_law_scopes_right ?_ ?_ ?_ ?_ ?_ ?_ rfl ?_ ?_ ?_ ?_ hb ?_ ?_ ?_ ?_ <;> kqd_all
end
end SC28
section SC30
section
variable {G : Gl} {c : Cx} {m : List (PySem.Str × AV)} {σ τ τ' : List AO} {e : Expr} {v : AV} {sa : Addr} {xs : List Int}
theorem EvX.weak (h : EvX G c m σ e v τ) (k : Kp τ' τ) : EvX G c m σ e v τ' := fun F ω s S Q E p => h F ω s S Q E fun g ω' σ' v' h' tk' n l k' S' hv => p g ω' σ' v' h' tk' n l (k.trans k') S' hv
theorem kp_nil : Kp [] σ := fun i o e _ => by simp at e
noncomputable abbrev cxL : Cx := ⟨7, "law", dScope (atTop 27), 335, .ref 334, [], none⟩
theorem lawBody_is : dBody (atTop 27) = [(dBody (atTop 27)).headD noStmt, (dBody (atTop 27)).getD 1 noStmt] := by rfl
theorem law_body (hpb : ∀ b, G.pb b → IsScript sa xs b) : SxX G cxL [("script", .glob (.ref sa))] [.tab none] (dBody (atTop 27)) (.ret (.bool true)) [] := by
  obtain ⟨a, b, hk⟩ := cl_keg (G := G) (σ := [.tab none]) hpb
  obtain ⟨a', b', hw⟩ := cl_written (G := G) (a := a) (b := b)
  have h0 : S1 G cxL [("script", .glob (.ref sa))] [.tab none] ((dBody (atTop 27)).headD noStmt) .next [("script", .glob (.ref sa)), ("keg", .loc 1)] [.tab none, .list [.int a, .int b]] := by
    refine' s1_to ?k1 ?k2 ?k3
    case k1 =>
      refine' s_assign ?a ?b ?c
      case a => kpt_turns
      case b => kd_p1
      case c => intro _; rfl
    case k2 => rfl
    case k3 => rfl
  have h1 : SxX G cxL [("script", .glob (.ref sa)), ("keg", .loc 1)] [.tab none, .list [.int a, .int b]] [(dBody (atTop 27)).getD 1 noStmt] (.ret (.bool true)) [] := by
    refine' sxX_head ?a ?b
    case a =>
      refine' s_retX ?c
      case c =>
        refine' evX_and_t (τ := [.exc none none, .list [.int a', .int b']]) ?d ?e ?f
        case d =>
          refine' evX_call ?u1 ?u2 ?u3 hw ?u4 ?u5
          case u1 => kcf_m
          case u2 => kc_close
          case u3 => kcf_all
          case u4 => exact Nat.le_refl _
          case u5 => intro _; rfl
        case e => exact fun _ => tru_bool
        case f =>
          intro σ' kk
          have hkeg : σ'[1]? = some (.list [.int a', .int b']) := kk 1 _ rfl (fun _ _ q => by cases q)
          obtain ⟨τ2, hs⟩ := cl_scopes (G := G) hkeg
          refine EvX.weak (τ := τ2) (evX_of ?_) kp_nil
          refine' ev_call ?u1 ?u2 ?u3 hs ?u4 ?u5
          case u1 => kcf_m
          case u2 => kc_close
          case u3 => kcf_all
          case u4 => exact Nat.le_of_ble_eq_true rfl
          case u5 => intro _; rfl
    case b => intro q; cases q
  rw [lawBody_is]
  exact sxX_next h0 h1
end
end SC30
section ST3
noncomputable abbrev dLaw : DefRec := ((recsOf q0).head?.getD ⟨"", ⟨[], [], none, [], [], none, []⟩, [], default, default⟩)
noncomputable abbrev rL : OpenRow := OpenLaw.row PySem.Challenge.rw_pc0200_01
set_option maxHeartbeats 4000000 in
theorem law_said : OpenLaw.wellSaid PySem.Challenge.rw_pc0200_01 = true := by decide +kernel
theorem law_defOf : defOf q0 rL.name = some (dLaw, []) := by kernel_rfl!
theorem law_holds (left : LeftO P0 q0 loose0 (fun _ => true) (Hook.obs HK) (Hook.val HK) 5688)
    (call : WalkO q0 loose0 (fun _ _ => True) (Hook.says HK) rL.toRowW dLaw [] fun f vs => PySem.call f vs) :
    PySem.Challenge.rw_pc0200_01.Holds := by
  refine holds_law law_said fun said => ?_
  refine PySem.W.holds_open (r := rL) (q := q0) (loose := loose0) (XP := fun _ _ => True) left (Hook.of HK) (Hook.keeps HK) (fun _ _ => trivial) (fun _ _ _ x _ => x) law_defOf ?h1 ?h2 (fun _ _ => recFacts_nil rfl) (by rfl) said ?h3 ?h4 ?h5 call
  case h1 => kernel_rfl!
  case h2 => kernel_rfl!
  case h3 => kernel_rfl!
  case h4 => exact ⟨rfl, rfl, rfl, rfl, rfl, by kernel_rfl!⟩
  case h5 => exact ⟨[.list []], by decide +kernel, by decide +kernel⟩
end ST3
section ST4
section
variable {w : World} {h h' : Heap} {mean : ExcName → Option Value} {mg mb : PySem.Str → Option Value}
theorem recs_is : recsOf q0 = [dLaw] := by kernel_rfl!
theorem owns_is : ownsOf q0 = [] := by kernel_rfl!
noncomputable abbrev tb0 : List (Addr × Addr) := [(256, 254)]
theorem tabs_at (X : (KK w.params).In h) (ht : h.get? 254 = some (tabObj #[])) : TabsAt tb0 h := fun q hq => by
  rw [List.mem_singleton.mp hq]
  exact ⟨codeHd_of_K X (by kernel_rfl!), ht⟩
theorem kk_noTabs (P : Params) : noTabs (KK P) = true := by kernel_rfl!
theorem rec_keep {cd : Value} {q : PySem.Str} (hT : TabsAt tb0 h) (x : h.CodeRec cd q) : (ghostOf h tb0).CodeRec cd q := by
  obtain ⟨c, o, vs, t, e, g, d, r⟩ := x
  exact ⟨c, o, vs, t, e, ghost_get hT g (fun q => by rw [q] at d; cases d; simp at r), d, r⟩
theorem seer_keep (hT : TabsAt tb0 h) (x : h.NoSeer) : (ghostOf h tb0).NoSeer := by
  obtain ⟨⟨mc, a1, a2⟩, ⟨mm, b1, b2⟩, ⟨mi, c1, c2⟩, ⟨mm', bm, ob, d1, d2, d3, d4, d5⟩⟩ := x
  exact ⟨⟨mc, ghost_ns hT a1, a2⟩, ⟨mm, ghost_ns hT b1, b2⟩, ⟨mi, ghost_ns hT c1, c2⟩, ⟨mm', bm, ob, ghost_ns hT d1, d2, ghost_get hT d3 (fun q => by rw [q] at d4; cases d4), d4, d5⟩⟩
theorem hd_keep {c P : Addr} (hT : TabsAt tb0 h) (x : CodeHd h c P) : CodeHd (ghostOf h tb0) c P := by
  obtain ⟨o, vs, file, tf, flags, tg, inF, text, tt, e, r, r'⟩ := x
  exact ⟨o, vs, file, tf, flags, tg, inF, text, tt, ghost_get hT e (fun q => by rw [q] at r; cases r), r, r'⟩
theorem dLaw_find : (recsOf q0).find? (fun e => e.name == ("law" : PySem.Str)) = some dLaw := by kernel_rfl!
theorem law_tab (P : Params) : tabIn (KK P) ("law" : PySem.Str) = some (334, 330) := by kernel_rfl!
theorem ghost_top0 (hT : TabsAt tb0 h) (X : (KK w.params).In h) (T : Top q0 lo0 mean mg mb h) : Top q0 lo0 mean mg mb (ghostOf h tb0) where
  g := ghost_ns hT T.g
  b := ghost_ns hT T.b
  nolimit := let ⟨mc, a, r⟩ := T.nolimit; ⟨mc, ghost_ns hT a, r⟩
  nodigits := let ⟨mc, a, r⟩ := T.nodigits; ⟨mc, ghost_ns hT a, r⟩
  fn := fun d hd => let ⟨a, o, pm, code, doc, h1, h2, h3, h4⟩ := T.fn d hd; ⟨a, o, pm, code, doc, h1, ghost_get hT h2 (fun q => by rw [q] at h3; cases h3), h3, rec_keep hT h4⟩
  own := fun o ho => by rw [owns_is] at ho; cases ho
  const := T.const
  free := T.free
  builtins := T.builtins
  tab := fun d hd => by
    obtain ⟨a, o, fd, c, P, h1, h2, h3, h4, h5, h6⟩ := T.tab d hd
    have hd' : d = dLaw := by rw [recs_is] at hd; exact List.mem_singleton.mp hd
    obtain ⟨t1, t2⟩ := tab_of T X dLaw_find (law_tab _)
    subst hd'
    have hn : dLaw.name = ("law" : PySem.Str) := by kernel_rfl!
    have hc : fd.code = .ref 334 := law_code X T.g (law_tab _) (hn ▸ h1) h2 h3
    refine ⟨a, o, fd, 334, 330, h1, ghost_get hT h2 (fun q => by rw [q] at h3; cases h3), h3, hc, ?_⟩
    have g2 : (ghostOf h tb0).get? 330 = some (tabObj #[]) := ghost_ne t2 (by decide)
    exact ⟨(hd_keep hT t1).code g2 (by show TriplesOk []; unfold TriplesOk; trivial), (hd_keep hT t1).tab g2⟩
  bmain := let ⟨bm, ob, a1, a2, a3, a4, r⟩ := T.bmain; ⟨bm, ob, a1, a2, ghost_get hT a3 (fun q => by rw [q] at a4; cases a4), a4, r⟩
  seer := fun hi => seer_keep hT (T.seer hi)
end
section
variable {w : World} {s₀ s₁ : Shared} {mg mb : PySem.Str → Option Value}
theorem law_items {R : WRecords} {cl : PySem.Str → Option Addr} {h : Heap} : ∀ (ds : List WData) (ws : List Value) (as : List Addr), WShape.hasItems R ds .int = true → ReadsAllW R cl h ws ds as → ∃ xs, IntsAre ws xs := fun ds => by
  induction ds with
  | nil =>
    intro ws as _ hr
    obtain ⟨rfl, _⟩ := readsAllW_nil_inv hr
    exact ⟨[], .nil⟩
  | cons d ds ih =>
    intro ws as hi hr
    obtain ⟨h1, h2⟩ := Bool.and_eq_true_iff.mp (show (WShape.has R d .int && WShape.hasItems R ds .int) = true from hi)
    obtain ⟨i, rfl⟩ := hasW_int h1
    obtain ⟨_, _, _, _, rfl, _, r1, r2⟩ := readsAllW_cons_inv hr
    obtain ⟨_, rfl, _⟩ := readsW_int_inv r1
    obtain ⟨xs, hx⟩ := ih _ _ h2 r2
    exact ⟨_, .cons _ _ hx⟩
theorem law_args {args : List WData} {vals : List Value} {as : List Addr} {R : WRecords} {cl : PySem.Str → Option Addr} {h : Heap} (hsh : WShape.hasAll R args [.list .int] = true) (hrd : ReadsAllW R cl h vals args as) :
    ∃ sa xs, vals = [.ref sa] ∧ IsScript sa xs h := by
  obtain ⟨d, r, rfl, h1, h2⟩ := hasAllW_cons hsh
  obtain rfl := hasAllW_nil h2
  obtain ⟨ds, rfl, hi⟩ := hasW_list h1
  obtain ⟨_, _, _, _, rfl, _, r1, r2⟩ := readsAllW_cons_inv hrd
  obtain ⟨rfl, _⟩ := readsAllW_nil_inv r2
  obtain ⟨a, vs, bs, rfl, ⟨o, e1, e2, n, e3⟩, r, _⟩ := readsW_list_inv r1
  obtain ⟨xs, hx⟩ := law_items _ _ _ hi r
  exact ⟨_, xs, rfl, _, _, _, e1, e2, e3, hx⟩
theorem law_bind {P : Params} (s : Shared) (v : Value) : BindsTo s (fdOf (atTop 27) "law" .none (.str "law_pc0200_01" 602) (.ref 334)) ⟨[v], []⟩ [("script", v)] := by
  refine BindsTo.of_eq ?_; kernel_rfl!
theorem law_call {sa : Addr} {xs : List Int} (X : (KK w.params).In s₁.heap) (ht : s₁.heap.get? 254 = some (tabObj #[])) (T : Top q0 lo0 (ExcName.means s₀.heap) mg mb s₁.heap) (hs : IsScript sa xs s₁.heap)
    {R : Result → Shared → Prop}
    (hbody : ∀ G : Gl, (∀ b, G.pb b → IsScript sa xs b) → SxX G ⟨7, "law", dScope (atTop 27), 335, .ref 334, [], none⟩ [("script", .glob (.ref sa))] [.tab none] (dBody (atTop 27)) (.ret (.bool true)) [])
    (p : ∀ h' tk', (∀ b o, (ghostOf s₁.heap tb0).get? b = some o → h'.get? b = some o) → GrownAll tb0 h' → R (.ok (.ret (.bool true))) { s₁ with heap := h', toks := tk' }) :
    codeAny (model P0 w) callerA (.call (.ref 335) ⟨[.ref sa], []⟩) R s₁ := by
  have hT := tabs_at X ht
  have hs' : IsScript sa xs (ghostOf s₁.heap tb0) := by
    obtain ⟨o, ws, n, e1, e2, e3, e4⟩ := hs
    exact ⟨o, ws, n, ghost_get hT e1 (fun q => by rw [q] at e2; cases e2), e2, e3, e4⟩
  refine codeAny_call_def (fd := fdOf (atTop 27) "law" .none (.str "law_pc0200_01" 602) (.ref 334)) (body := dBody (atTop 27)) (binds := [("script", .ref sa)]) (by decide) (X 335 _ (ho_law (G := ⟨w, ExcName.means s₀.heap, mg, mb, IsScript sa xs⟩))) rfl T.nolimit (codeRec_of X (by kernel_rfl!)) rfl (law_bind (P := w.params) _ _) ?ce ?lo (fun h₁ hns hk₁ => ?bo) ?co ?ge ?ki
  case ce =>
    have hc : ((dScope (atTop 27)).names.all fun x => x.2 != .cell) = true := by kernel_rfl!
    intro y hy
    have := List.all_eq_true.mp hc y hy
    simpa using this
  case lo =>
    intro y hy
    rw [List.mem_singleton.mp hy]
    show (dScope (atTop 27)).names.lookup ("script" : PySem.Str) = some NameKind.local
    kernel_rfl!
  case bo =>
    have F : Fr (ghostOf s₁.heap tb0) s₁.heap.objs.size h₁ (fun x => ([(("script" : PySem.Str), Value.ref sa)]).reverse.lookup x) := ⟨hns, fun b o e => hk₁ b o (of_hideAll _ e), Nat.le_of_eq (hideAll_size _ _)⟩
    refine hbody ⟨w, ExcName.means s₀.heap, mg, mb, IsScript sa xs⟩ (fun _ x => x) ⟨callerA, callerA.deeper (envOf "law" (dScope (atTop 27)) s₁.heap.objs.size 335 (.ref 334)), ghostOf s₁.heap tb0, [], ghostOf s₁.heap tb0, s₁.heap.objs.size, [], 0, [], "", none⟩ ⟨[254], []⟩ _ ?_ _ _ ?_
    · exact
        { hA := rfl
          hH := rfl
          hD := Nat.le_of_ble_eq_true rfl
          hU := Nat.le_of_ble_eq_true rfl
          hK := by kernel_rfl!
          B := below_caller _
          XB := ghost_K hT X (kk_noTabs _)
          PB := hs'
          TB := ghost_top0 hT X T
          cel := trivial
          blk := fun b hb => by cases hb
          lo := ⟨_, F, fun x v e => by
            simp only [lk] at e
            split at e
            · rename_i hx
              subst hx
              cases e
              exact ⟨.ref sa, by simp [List.lookup_cons], .glob _⟩
            · cases e⟩
          hp := ⟨[tabObj #[]], fun q hq => by
            have : q = (254, tabObj #[]) := by simpa [lv, AO.live] using hq
            subst this
            exact ⟨hk₁ _ _ ht, Nat.ne_of_lt (Heap.lt_size ht), hideAll_none _ (List.mem_singleton.mpr rfl)⟩, rfl, .cons .tab0 .nil⟩
          nd := by simp [la, AO.live]
          gt := ⟨fun a ha => by
            have : a = 254 := by simpa [la, AO.live] using ha
            rw [this]; decide, none, rfl⟩
          t0 := rfl }
    · intro g ω' m' σ' fl' h' tk' n l k S hf
      obtain ⟨M', F', _⟩ := S.lo
      obtain ⟨t, htb⟩ := S.gt.2
      obtain ⟨o, ho, hr⟩ := S.atL htb S.t0
      cases hf with
      | ret hv =>
        cases hv with
        | bool =>
          refine p h' tk' (fun b o e => F'.keep b o (S.B.stays b o e)) ⟨?_, trivial⟩
          cases hr with
          | tab0 => exact ⟨_, ho⟩
          | tab1 _ => exact ⟨_, ho⟩
  case co => kernel_rfl!
  case ge => kernel_rfl!
  case ki => kernel_rfl!
theorem good_true {args : List WData} {hG : Heap} {s : Shared} {h' : Heap} {tk' : Nat} (hg : s.gens = #[]) (hk : ∀ b o, hG.get? b = some o → h'.get? b = some o) :
    GoodW rL.toRowW.claim (classAt s₀.heap) (ExcName.means s₀.heap) args { s with heap := hG } (.ok (.ret (.bool true))) { s with heap := h', toks := tk' } :=
  ⟨.inl ⟨_, _, [], rfl, fun _ => rfl, .bool true, by wrow_post, fun _ => ⟨List.nodup_nil, fun _ hm => (nomatch hm)⟩⟩, hk, rfl, hg⟩
theorem law_walk (hbody : ∀ {G : Gl} {sa : Addr} {xs : List Int}, (∀ b, G.pb b → IsScript sa xs b) → SxX G ⟨7, "law", dScope (atTop 27), 335, .ref 334, [], none⟩ [("script", .glob (.ref sa))] [.tab none] (dBody (atTop 27)) (.ret (.bool true)) []) :
    WalkO q0 loose0 (fun _ _ => True) (Hook.says HK) rL.toRowW dLaw [] fun f vs => PySem.call f vs := by
  intro w s₀ s₁ mg mb G Y fa o pm cd doc dV kV ho hd hcd hD hmg hg args vals as hpre hlay hrd hwl hlo
  have X : (KK w.params).In s₁.heap := km_in_of (K := KK) Y
  have ht : s₁.heap.get? 254 = some (tabObj #[]) := km_tabs_of (K := KK) Y 254 (List.mem_singleton.mpr rfl)
  have hn : dLaw.name = ("law" : PySem.Str) := by kernel_rfl!
  have hm : mg ("law" : PySem.Str) = some (.ref 335) := mg_of X G.T.g (by kernel_rfl!)
  have hfa : fa = 335 := by rw [hn, hm] at hmg; cases hmg; rfl
  subst hfa
  obtain ⟨sa, xs, rfl, hs⟩ := law_args (pre_splitW hpre).1 hrd
  refine enter_call (kn_post (tabs := tb0) (tabs_at X ht) (fun _ _ => rfl) ?_)
  exact law_call (s₀ := s₀) X ht G.T hs (fun G' h => hbody h) fun h' tk' hk hgr => ⟨good_true hg hk, hgr⟩
end
end ST4
end Mine
theorem PySem.Challenge.cw_pc0200_01_holds : PySem.Challenge.rw_pc0200_01.Holds := by
  exact Mine.law_holds Mine.left0 (Mine.law_walk Mine.law_body)
