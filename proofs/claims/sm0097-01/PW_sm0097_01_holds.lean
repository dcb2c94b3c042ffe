import PyProof.Rows.All
import Wide.All
import OpenK.AllK
import Wide.FinOn
import Lean
import PySem.Challenge.RW_sm0097_01
open PySem PySem.W PySem.Calls PyProof.Rows
set_option Elab.async false
set_option maxRecDepth 100000
set_option maxHeartbeats 0
set_option linter.all false
set_option compiler.extract_closed false
set_option compiler.reuse false
set_option genSizeOfSpec false
namespace Mine
noncomputable def nS : List Stmt → Nat → Stmt
  | s :: _, 0 => s
  | _ :: r, n + 1 => nS r n
  | [], _ => .Pass ⟨0, 0, 0, 0⟩
noncomputable def cb : Stmt → List Stmt
  | .ClassDef _ _ _ b _ _ _ _ _ _ _ => b
  | _ => []
noncomputable def fd : Stmt → Arguments × List Stmt × Scope
  | .FunctionDef _ a b _ _ _ s _ _ _ => (a, b, s)
  | _ => (⟨[], [], none, [], [], none, []⟩, [], ⟨.function, [], false, false, []⟩)
noncomputable abbrev pw : Program := PySem.Challenge.pw_sm0097_01
noncomputable def pb : List Stmt := pw.main.body
noncomputable def lhsOf {α : Type} {a b : α} (_ : a = b) : α := a
noncomputable def en (P : Params) (x : Str) (t : Tok) (v : Value) : DictEntry := { hash := PyData.keyHash P x, key := .str x t, val := v }
noncomputable def fO (nm qual : Str) (p : Arguments) (b : List Stmt) (s : Scope) (dV : Value) (md : Str) (mt : Tok) (cd : Value) : Obj :=
  { cls := Value.type "function", data := Data.func { name := nm, qualname := qual, params := p, body := FuncBody.stmts b, scope := s, globals := 3, closure := [], defaults := dV, kwdefaults := Value.none, pyModule := Value.str md mt, code := cd } }
noncomputable def Foo (_ : Arguments × List Stmt × Scope) : Type := Obj
noncomputable def mkF {p : Arguments} {b : List Stmt} {s : Scope} (nm qual : Str) (dV : Value) (md : Str) (mt : Tok) (cd : Value) : Foo (p, b, s) := fO nm qual p b s dV md mt cd
noncomputable def o48 : Obj := (mkF "__init__" "Refusal.__init__" (Value.none) "vectorcove.errors" 194 (Value.ref 47) : Foo (fd (nS (cb (nS pb 3)) 0)))
noncomputable def o67 : Obj := (mkF "__init__" "Null.__init__" (Value.none) "vectorcove.values" 241 (Value.ref 66) : Foo (fd (nS (cb (nS pb 5)) 0)))
noncomputable def o89 : Obj := (mkF "__init__" "Vector.__init__" (Value.ref 82) "vectorcove.values" 241 (Value.ref 88) : Foo (fd (nS (cb (nS pb 6)) 0)))
noncomputable def o117 : Obj := (mkF "__init__" "Symbol.__init__" (Value.none) "vectorcove.values" 241 (Value.ref 116) : Foo (fd (nS (cb (nS pb 7)) 0)))
noncomputable def o131 : Obj := (mkF "integer" "integer" (Value.none) "vectorcove.values" 241 (Value.ref 130) : Foo (fd (nS pb 8)))
noncomputable def o138 : Obj := (mkF "character" "character" (Value.none) "vectorcove.values" 241 (Value.ref 137) : Foo (fd (nS pb 9)))
noncomputable def o145 : Obj := (mkF "length" "length" (Value.none) "vectorcove.values" 241 (Value.ref 144) : Foo (fd (nS pb 10)))
noncomputable def o152 : Obj := (mkF "is_vector" "is_vector" (Value.none) "vectorcove.values" 241 (Value.ref 151) : Foo (fd (nS pb 11)))
noncomputable def o159 : Obj := (mkF "share" "share" (Value.none) "vectorcove.values" 241 (Value.ref 158) : Foo (fd (nS pb 12)))
noncomputable def o173 : Obj := (mkF "__init__" "Matching.__init__" (Value.none) "vectorcove.callargs" 381 (Value.ref 172) : Foo (fd (nS (cb (nS pb 14)) 0)))
noncomputable def o180 : Obj := (mkF "exact" "Matching.exact" (Value.none) "vectorcove.callargs" 381 (Value.ref 179) : Foo (fd (nS (cb (nS pb 14)) 1)))
noncomputable def o187 : Obj := (mkF "partial" "Matching.partial" (Value.none) "vectorcove.callargs" 381 (Value.ref 186) : Foo (fd (nS (cb (nS pb 14)) 2)))
noncomputable def o194 : Obj := (mkF "partial_of" "Matching.partial_of" (Value.none) "vectorcove.callargs" 381 (Value.ref 193) : Foo (fd (nS (cb (nS pb 14)) 3)))
noncomputable def o201 : Obj := (mkF "positional" "Matching.positional" (Value.none) "vectorcove.callargs" 381 (Value.ref 200) : Foo (fd (nS (cb (nS pb 14)) 4)))
noncomputable def o208 : Obj := (mkF "is_free" "Matching.is_free" (Value.none) "vectorcove.callargs" 381 (Value.ref 207) : Foo (fd (nS (cb (nS pb 14)) 5)))
noncomputable def o213 : Obj := (mkF "rest" "Matching.rest" (Value.none) "vectorcove.callargs" 381 (Value.ref 212) : Foo (fd (nS (cb (nS pb 14)) 6)))
noncomputable def o241 : Obj := (mkF "plain_text" "plain_text" (Value.none) "vectorcove.callargs" 381 (Value.ref 240) : Foo (fd (nS pb 17)))
noncomputable def o252 : Obj := (mkF "match_names" "match_names" (Value.ref 247) "vectorcove.callargs" 381 (Value.ref 251) : Foo (fd (nS pb 19)))
noncomputable def o259 : Obj := (mkF "needed" "needed" (Value.none) "vectorcove.callargs" 381 (Value.ref 258) : Foo (fd (nS pb 20)))
noncomputable def o265 : Obj := (mkF "take" "take" (Value.ref 260) "vectorcove.callargs" 381 (Value.ref 264) : Foo (fd (nS pb 21)))
noncomputable def o272 : Obj := (mkF "get_attr" "get_attr" (Value.none) "vectorcove.attrs" 519 (Value.ref 271) : Foo (fd (nS pb 23)))
noncomputable def o277 : Obj := (mkF "names_of" "names_of" (Value.none) "vectorcove.attrs" 519 (Value.ref 276) : Foo (fd (nS pb 24)))
noncomputable def o284 : Obj := (mkF "dim_of" "dim_of" (Value.none) "vectorcove.attrs" 519 (Value.ref 283) : Foo (fd (nS pb 25)))
noncomputable def o289 : Obj := (mkF "dimnames_of" "dimnames_of" (Value.none) "vectorcove.attrs" 519 (Value.ref 288) : Foo (fd (nS pb 26)))
noncomputable def o296 : Obj := (mkF "class_attr" "class_attr" (Value.none) "vectorcove.attrs" 519 (Value.ref 295) : Foo (fd (nS pb 27)))
noncomputable def o303 : Obj := (mkF "is_frame" "is_frame" (Value.none) "vectorcove.frames" 557 (Value.ref 302) : Foo (fd (nS pb 29)))
noncomputable def o308 : Obj := (mkF "new_frame" "new_frame" (Value.none) "vectorcove.frames" 557 (Value.ref 307) : Foo (fd (nS pb 30)))
noncomputable def o315 : Obj := (mkF "plain_rows" "plain_rows" (Value.none) "vectorcove.frames" 557 (Value.ref 314) : Foo (fd (nS pb 31)))
noncomputable def o322 : Obj := (mkF "frame_rows" "frame_rows" (Value.none) "vectorcove.frames" 557 (Value.ref 321) : Foo (fd (nS pb 32)))
noncomputable def o327 : Obj := (mkF "column_names" "column_names" (Value.none) "vectorcove.frames" 557 (Value.ref 326) : Foo (fd (nS pb 33)))
noncomputable def o334 : Obj := (mkF "kept_attrs" "kept_attrs" (Value.none) "vectorcove.frames" 557 (Value.ref 333) : Foo (fd (nS pb 34)))
noncomputable def o341 : Obj := (mkF "lacking" "lacking" (Value.none) "vectorcove.frames" 557 (Value.ref 340) : Foo (fd (nS pb 35)))
noncomputable def o348 : Obj := (mkF "pick_items" "pick_items" (Value.none) "vectorcove.frames" 557 (Value.ref 347) : Foo (fd (nS pb 36)))
noncomputable def o388 : Obj := (mkF "first_places" "first_places" (Value.none) "vectorcove.index" 638 (Value.ref 387) : Foo (fd (nS pb 44)))
noncomputable def o402 : Obj := (mkF "extending_places" "extending_places" (Value.none) "vectorcove.index" 638 (Value.ref 401) : Foo (fd (nS pb 46)))
noncomputable def o409 : Obj := (mkF "positions" "positions" (Value.none) "vectorcove.index" 638 (Value.ref 408) : Foo (fd (nS pb 47)))
noncomputable def o414 : Obj := (mkF "fitted_column" "fitted_column" (Value.none) "vectorcove.frameset" 713 (Value.ref 413) : Foo (fd (nS pb 49)))
noncomputable def o421 : Obj := (mkF "place_of_column" "place_of_column" (Value.none) "vectorcove.frameset" 713 (Value.ref 420) : Foo (fd (nS pb 50)))
noncomputable def o428 : Obj := (mkF "assign_column" "assign_column" (Value.none) "vectorcove.frameset" 713 (Value.ref 427) : Foo (fd (nS pb 51)))
noncomputable def o435 : Obj := (mkF "first_frame" "first_frame" (Value.none) "vectorcove.framecalls" 749 (Value.ref 434) : Foo (fd (nS pb 53)))
noncomputable def o442 : Obj := (mkF "b_set_dollar" "b_set_dollar" (Value.none) "vectorcove.framecalls" 749 (Value.ref 441) : Foo (fd (nS pb 54)))
noncomputable def o449 : Obj := (mkF "_law_dip" "_law_dip" (Value.none) "law_sm0097_01" 770 (Value.ref 448) : Foo (fd (nS pb 56)))
noncomputable def o454 : Obj := (mkF "_law_fresh" "_law_fresh" (Value.none) "law_sm0097_01" 770 (Value.ref 453) : Foo (fd (nS pb 57)))
noncomputable def o459 : Obj := (mkF "_law_told" "_law_told" (Value.none) "law_sm0097_01" 770 (Value.ref 458) : Foo (fd (nS pb 58)))
noncomputable def o464 : Obj := (mkF "_law_sheet" "_law_sheet" (Value.none) "law_sm0097_01" 770 (Value.ref 463) : Foo (fd (nS pb 59)))
/-- what the top leaves: the objects that the law reaches -/
noncomputable def KK (P : Params) : Frag :=
  [(3, { cls := Value.type "dict", data := Data.dict #[en P "__name__" 165 (Value.str ("law_sm0097_01") 770), en P "__doc__" 166 (Value.none), en P "__package__" 167 (Value.none), en P "__loader__" 168 (Value.builtin "__main__.__loader__#opaque"), en P "__spec__" 169 (Value.none), en P "__annotations__" 170 (Value.ref 6), en P "__builtins__" 171 (Value.ref 4), en P "__file__" 173 (Value.str ("/claim/cut.py") 172), en P "__cached__" 174 (Value.none), en P "_wall" 193 (Value.ref 21), en P "CoveError" 215 (Value.ref 31), en P "Refusal" 240 (Value.ref 51), en P "Null" 271 (Value.ref 70), en P "Vector" 313 (Value.ref 99), en P "Symbol" 344 (Value.ref 120), en P "integer" 351 (Value.ref 131), en P "character" 358 (Value.ref 138), en P "length" 366 (Value.ref 145), en P "is_vector" 373 (Value.ref 152), en P "share" 380 (Value.ref 159), en P "Matching" 465 (Value.ref 216), en P "doubled_text" 472 (Value.ref 227), en P "argument_text" 484 (Value.ref 234), en P "plain_text" 492 (Value.ref 241), en P "unused_text" 498 (Value.ref 246), en P "match_names" 504 (Value.ref 252), en P "needed" 512 (Value.ref 259), en P "take" 518 (Value.ref 265), en P "get_attr" 528 (Value.ref 272), en P "names_of" 534 (Value.ref 277), en P "dim_of" 542 (Value.ref 284), en P "dimnames_of" 548 (Value.ref 289), en P "class_attr" 556 (Value.ref 296), en P "is_frame" 567 (Value.ref 303), en P "new_frame" 573 (Value.ref 308), en P "plain_rows" 580 (Value.ref 315), en P "frame_rows" 587 (Value.ref 322), en P "column_names" 593 (Value.ref 327), en P "kept_attrs" 602 (Value.ref 334), en P "lacking" 609 (Value.ref 341), en P "pick_items" 620 (Value.ref 348), en P "is_finite" 629 (Value.ref 355), en P "to_whole" 637 (Value.ref 362), en P "whole_subscripts" 648 (Value.ref 369), en P "logical_places" 660 (Value.ref 376), en P "whole_places" 666 (Value.ref 381), en P "first_places" 676 (Value.ref 388), en P "name_places" 687 (Value.ref 395), en P "extending_places" 701 (Value.ref 402), en P "positions" 712 (Value.ref 409), en P "fitted_column" 720 (Value.ref 414), en P "place_of_column" 732 (Value.ref 421), en P "assign_column" 748 (Value.ref 428), en P "first_frame" 757 (Value.ref 435), en P "b_set_dollar" 769 (Value.ref 442), en P "_law_dip" 780 (Value.ref 449), en P "_law_fresh" 786 (Value.ref 454), en P "_law_told" 792 (Value.ref 459), en P "_law_sheet" 798 (Value.ref 464), en P "law" 804 (Value.ref 469)] 60 }),
   (30, { cls := Value.type "dict", data := Data.dict #[en P "__module__" 203 (Value.str ("vectorcove.errors") 194), en P "__firstlineno__" 207 (Value.int 5 206), en P "__static_attributes__" 208 (Value.ref 29), en P "__weakref__" 210 (Value.ref 32), en P "__doc__" 211 (Value.none)] 3 }),
   (31, { cls := Value.type "type", data := Data.cls { name := "CoveError", bases := [Value.type "Exception"], mro := [Value.ref 31, Value.type "Exception", Value.type "BaseException", Value.type "object"], ns := 30, qualname := "CoveError", subclasses := [Value.ref 51] }, slots := #[some (Value.ref 22), none, some (Value.str ("CoveError") 196), some (Value.str ("CoveError") 204), some (Value.builtin "Exception.__new__"), some (Value.bool true)] }),
   (47, { cls := Value.type "code", data := Data.fields #[Value.str ("__init__") 228, Value.str ("Refusal.__init__") 229, Value.str ("/claim/cut.py") 230, Value.int 9 0, Value.int 2 0, Value.int 0 0, Value.int 0 0, Value.int 3 0, Value.ref 42, Value.bool true, Value.int 181 0, Value.ref 43, Value.none, Value.ref 44, Value.ref 45, Value.ref 46, Value.int 233 0, Value.int 9 0, Value.str ("/claim/cut.py") 234] }),
   (48, o48),
   (50, { cls := Value.type "dict", data := Data.dict #[en P "__module__" 223 (Value.str ("vectorcove.errors") 194), en P "__firstlineno__" 227 (Value.int 7 226), en P "__init__" 235 (Value.ref 48), en P "__static_attributes__" 237 (Value.ref 49), en P "__doc__" 238 (Value.none)] 2 }),
   (51, { cls := Value.type "type", data := Data.cls { name := "Refusal", bases := [Value.ref 31], mro := [Value.ref 51, Value.ref 31, Value.type "Exception", Value.type "BaseException", Value.type "object"], ns := 50, qualname := "Refusal" }, slots := #[some (Value.ref 35), none, some (Value.str ("Refusal") 216), some (Value.str ("Refusal") 224), some (Value.builtin "Exception.__new__"), some (Value.bool true)] }),
   (66, { cls := Value.type "code", data := Data.fields #[Value.str ("__init__") 255, Value.str ("Null.__init__") 256, Value.str ("/claim/cut.py") 257, Value.int 14 0, Value.int 1 0, Value.int 0 0, Value.int 0 0, Value.int 3 0, Value.ref 61, Value.bool true, Value.int 181 0, Value.ref 62, Value.none, Value.ref 63, Value.ref 64, Value.ref 65, Value.int 259 0, Value.int 14 0, Value.str ("/claim/cut.py") 260] }),
   (67, o67),
   (69, { cls := Value.type "dict", data := Data.dict #[en P "__module__" 250 (Value.str ("vectorcove.values") 241), en P "__firstlineno__" 254 (Value.int 12 253), en P "__init__" 261 (Value.ref 67), en P "__static_attributes__" 264 (Value.ref 68), en P "__dict__" 266 (Value.ref 71), en P "__weakref__" 268 (Value.ref 72), en P "__doc__" 269 (Value.none)] 4 }),
   (70, { cls := Value.type "type", data := Data.cls { name := "Null", bases := [Value.type "object"], mro := [Value.ref 70, Value.type "object"], ns := 69, qualname := "Null" }, slots := #[none, none, some (Value.str ("Null") 243), some (Value.str ("Null") 251), some (Value.builtin "object.__new__"), some (Value.bool true)] }),
   (82, { cls := Value.type "tuple", data := Data.seq #[Value.none] }),
   (88, { cls := Value.type "code", data := Data.fields #[Value.str ("__init__") 284, Value.str ("Vector.__init__") 285, Value.str ("/claim/cut.py") 286, Value.int 19 0, Value.int 4 0, Value.int 0 0, Value.int 0 0, Value.int 3 0, Value.ref 83, Value.bool true, Value.int 181 0, Value.ref 84, Value.none, Value.ref 85, Value.ref 86, Value.ref 87, Value.int 291 0, Value.int 19 0, Value.str ("/claim/cut.py") 292] }),
   (89, o89),
   (98, { cls := Value.type "dict", data := Data.dict #[en P "__module__" 279 (Value.str ("vectorcove.values") 241), en P "__firstlineno__" 283 (Value.int 17 282), en P "__init__" 293 (Value.ref 89), en P "copy" 300 (Value.ref 96), en P "__static_attributes__" 306 (Value.ref 97), en P "__dict__" 308 (Value.ref 100), en P "__weakref__" 310 (Value.ref 101), en P "__doc__" 311 (Value.none)] 4 }),
   (99, { cls := Value.type "type", data := Data.cls { name := "Vector", bases := [Value.type "object"], mro := [Value.ref 99, Value.type "object"], ns := 98, qualname := "Vector" }, slots := #[none, none, some (Value.str ("Vector") 272), some (Value.str ("Vector") 280), some (Value.builtin "object.__new__"), some (Value.bool true)] }),
   (116, { cls := Value.type "code", data := Data.fields #[Value.str ("__init__") 326, Value.str ("Symbol.__init__") 327, Value.str ("/claim/cut.py") 328, Value.int 30 0, Value.int 2 0, Value.int 0 0, Value.int 0 0, Value.int 3 0, Value.ref 111, Value.bool true, Value.int 181 0, Value.ref 112, Value.none, Value.ref 113, Value.ref 114, Value.ref 115, Value.int 331 0, Value.int 30 0, Value.str ("/claim/cut.py") 332] }),
   (117, o117),
   (119, { cls := Value.type "dict", data := Data.dict #[en P "__module__" 321 (Value.str ("vectorcove.values") 241), en P "__firstlineno__" 325 (Value.int 28 324), en P "__init__" 333 (Value.ref 117), en P "__static_attributes__" 337 (Value.ref 118), en P "__dict__" 339 (Value.ref 121), en P "__weakref__" 341 (Value.ref 122), en P "__doc__" 342 (Value.none)] 4 }),
   (120, { cls := Value.type "type", data := Data.cls { name := "Symbol", bases := [Value.type "object"], mro := [Value.ref 120, Value.type "object"], ns := 119, qualname := "Symbol" }, slots := #[none, none, some (Value.str ("Symbol") 314), some (Value.str ("Symbol") 322), some (Value.builtin "object.__new__"), some (Value.bool true)] }),
   (130, { cls := Value.type "code", data := Data.fields #[Value.str ("integer") 345, Value.str ("integer") 346, Value.str ("/claim/cut.py") 347, Value.int 34 0, Value.int 1 0, Value.int 0 0, Value.int 0 0, Value.int 3 0, Value.ref 125, Value.bool true, Value.int 181 0, Value.ref 126, Value.none, Value.ref 127, Value.ref 128, Value.ref 129, Value.int 349 0, Value.int 34 0, Value.str ("/claim/cut.py") 350] }),
   (131, o131),
   (137, { cls := Value.type "code", data := Data.fields #[Value.str ("character") 352, Value.str ("character") 353, Value.str ("/claim/cut.py") 354, Value.int 36 0, Value.int 1 0, Value.int 0 0, Value.int 0 0, Value.int 3 0, Value.ref 132, Value.bool true, Value.int 181 0, Value.ref 133, Value.none, Value.ref 134, Value.ref 135, Value.ref 136, Value.int 356 0, Value.int 36 0, Value.str ("/claim/cut.py") 357] }),
   (138, o138),
   (144, { cls := Value.type "code", data := Data.fields #[Value.str ("length") 359, Value.str ("length") 360, Value.str ("/claim/cut.py") 361, Value.int 38 0, Value.int 1 0, Value.int 0 0, Value.int 0 0, Value.int 3 0, Value.ref 139, Value.bool true, Value.int 181 0, Value.ref 140, Value.none, Value.ref 141, Value.ref 142, Value.ref 143, Value.int 364 0, Value.int 38 0, Value.str ("/claim/cut.py") 365] }),
   (145, o145),
   (151, { cls := Value.type "code", data := Data.fields #[Value.str ("is_vector") 367, Value.str ("is_vector") 368, Value.str ("/claim/cut.py") 369, Value.int 49 0, Value.int 1 0, Value.int 0 0, Value.int 0 0, Value.int 3 0, Value.ref 146, Value.bool true, Value.int 181 0, Value.ref 147, Value.none, Value.ref 148, Value.ref 149, Value.ref 150, Value.int 371 0, Value.int 49 0, Value.str ("/claim/cut.py") 372] }),
   (152, o152),
   (158, { cls := Value.type "code", data := Data.fields #[Value.str ("share") 374, Value.str ("share") 375, Value.str ("/claim/cut.py") 376, Value.int 51 0, Value.int 1 0, Value.int 0 0, Value.int 0 0, Value.int 3 0, Value.ref 153, Value.bool true, Value.int 181 0, Value.ref 154, Value.none, Value.ref 155, Value.ref 156, Value.ref 157, Value.int 378 0, Value.int 51 0, Value.str ("/claim/cut.py") 379] }),
   (159, o159),
   (172, { cls := Value.type "code", data := Data.fields #[Value.str ("__init__") 395, Value.str ("Matching.__init__") 396, Value.str ("/claim/cut.py") 397, Value.int 58 0, Value.int 3 0, Value.int 0 0, Value.int 0 0, Value.int 3 0, Value.ref 167, Value.bool true, Value.int 181 0, Value.ref 168, Value.none, Value.ref 169, Value.ref 170, Value.ref 171, Value.int 401 0, Value.int 58 0, Value.str ("/claim/cut.py") 402] }),
   (173, o173),
   (179, { cls := Value.type "code", data := Data.fields #[Value.str ("exact") 404, Value.str ("Matching.exact") 405, Value.str ("/claim/cut.py") 406, Value.int 64 0, Value.int 1 0, Value.int 0 0, Value.int 0 0, Value.int 3 0, Value.ref 174, Value.bool true, Value.int 181 0, Value.ref 175, Value.none, Value.ref 176, Value.ref 177, Value.ref 178, Value.int 410 0, Value.int 64 0, Value.str ("/claim/cut.py") 411] }),
   (180, o180),
   (186, { cls := Value.type "code", data := Data.fields #[Value.str ("partial") 413, Value.str ("Matching.partial") 414, Value.str ("/claim/cut.py") 415, Value.int 74 0, Value.int 1 0, Value.int 0 0, Value.int 0 0, Value.int 3 0, Value.ref 181, Value.bool true, Value.int 181 0, Value.ref 182, Value.none, Value.ref 183, Value.ref 184, Value.ref 185, Value.int 418 0, Value.int 74 0, Value.str ("/claim/cut.py") 419] }),
   (187, o187),
   (193, { cls := Value.type "code", data := Data.fields #[Value.str ("partial_of") 421, Value.str ("Matching.partial_of") 422, Value.str ("/claim/cut.py") 423, Value.int 81 0, Value.int 2 0, Value.int 0 0, Value.int 0 0, Value.int 3 0, Value.ref 188, Value.bool true, Value.int 181 0, Value.ref 189, Value.none, Value.ref 190, Value.ref 191, Value.ref 192, Value.int 428 0, Value.int 81 0, Value.str ("/claim/cut.py") 429] }),
   (194, o194),
   (200, { cls := Value.type "code", data := Data.fields #[Value.str ("positional") 431, Value.str ("Matching.positional") 432, Value.str ("/claim/cut.py") 433, Value.int 92 0, Value.int 1 0, Value.int 0 0, Value.int 0 0, Value.int 3 0, Value.ref 195, Value.bool true, Value.int 181 0, Value.ref 196, Value.none, Value.ref 197, Value.ref 198, Value.ref 199, Value.int 437 0, Value.int 92 0, Value.str ("/claim/cut.py") 438] }),
   (201, o201),
   (207, { cls := Value.type "code", data := Data.fields #[Value.str ("is_free") 440, Value.str ("Matching.is_free") 441, Value.str ("/claim/cut.py") 442, Value.int 104 0, Value.int 2 0, Value.int 0 0, Value.int 0 0, Value.int 3 0, Value.ref 202, Value.bool true, Value.int 181 0, Value.ref 203, Value.none, Value.ref 204, Value.ref 205, Value.ref 206, Value.int 445 0, Value.int 104 0, Value.str ("/claim/cut.py") 446] }),
   (208, o208),
   (212, { cls := Value.type "code", data := Data.fields #[Value.str ("rest") 448, Value.str ("Matching.rest") 449, Value.str ("/claim/cut.py") 450, Value.int 107 0, Value.int 1 0, Value.int 0 0, Value.int 0 0, Value.int 3 0, Value.ref 209, Value.bool true, Value.int 181 0, Value.ref 210, Value.none, Value.none, Value.none, Value.ref 211, Value.int 451 0, Value.int 107 0, Value.str ("/claim/cut.py") 452] }),
   (213, o213),
   (215, { cls := Value.type "dict", data := Data.dict #[en P "__module__" 390 (Value.str ("vectorcove.callargs") 381), en P "__firstlineno__" 394 (Value.int 56 393), en P "__init__" 403 (Value.ref 173), en P "exact" 412 (Value.ref 180), en P "partial" 420 (Value.ref 187), en P "partial_of" 430 (Value.ref 194), en P "positional" 439 (Value.ref 201), en P "is_free" 447 (Value.ref 208), en P "rest" 453 (Value.ref 213), en P "__static_attributes__" 458 (Value.ref 214), en P "__dict__" 460 (Value.ref 217), en P "__weakref__" 462 (Value.ref 218), en P "__doc__" 463 (Value.none)] 4 }),
   (216, { cls := Value.type "type", data := Data.cls { name := "Matching", bases := [Value.type "object"], mro := [Value.ref 216, Value.type "object"], ns := 215, qualname := "Matching" }, slots := #[none, none, some (Value.str ("Matching") 383), some (Value.str ("Matching") 391), some (Value.builtin "object.__new__"), some (Value.bool true)] }),
   (240, { cls := Value.type "code", data := Data.fields #[Value.str ("plain_text") 485, Value.str ("plain_text") 486, Value.str ("/claim/cut.py") 487, Value.int 117 0, Value.int 1 0, Value.int 0 0, Value.int 0 0, Value.int 3 0, Value.ref 235, Value.bool true, Value.int 181 0, Value.ref 236, Value.none, Value.ref 237, Value.ref 238, Value.ref 239, Value.int 490 0, Value.int 117 0, Value.str ("/claim/cut.py") 491] }),
   (241, o241),
   (247, { cls := Value.type "tuple", data := Data.seq #[Value.none] }),
   (251, { cls := Value.type "code", data := Data.fields #[Value.str ("match_names") 499, Value.str ("match_names") 500, Value.str ("/claim/cut.py") 501, Value.int 138 0, Value.int 3 0, Value.int 0 0, Value.int 0 0, Value.int 3 0, Value.ref 248, Value.bool true, Value.int 181 0, Value.ref 249, Value.none, Value.none, Value.none, Value.ref 250, Value.int 502 0, Value.int 138 0, Value.str ("/claim/cut.py") 503] }),
   (252, o252),
   (258, { cls := Value.type "code", data := Data.fields #[Value.str ("needed") 505, Value.str ("needed") 506, Value.str ("/claim/cut.py") 507, Value.int 147 0, Value.int 2 0, Value.int 0 0, Value.int 0 0, Value.int 3 0, Value.ref 253, Value.bool true, Value.int 181 0, Value.ref 254, Value.none, Value.ref 255, Value.ref 256, Value.ref 257, Value.int 510 0, Value.int 147 0, Value.str ("/claim/cut.py") 511] }),
   (259, o259),
   (260, { cls := Value.type "tuple", data := Data.seq #[Value.none] }),
   (264, { cls := Value.type "code", data := Data.fields #[Value.str ("take") 513, Value.str ("take") 514, Value.str ("/claim/cut.py") 515, Value.int 151 0, Value.int 3 0, Value.int 0 0, Value.int 0 0, Value.int 3 0, Value.ref 261, Value.bool true, Value.int 181 0, Value.ref 262, Value.none, Value.none, Value.none, Value.ref 263, Value.int 516 0, Value.int 151 0, Value.str ("/claim/cut.py") 517] }),
   (265, o265),
   (271, { cls := Value.type "code", data := Data.fields #[Value.str ("get_attr") 521, Value.str ("get_attr") 522, Value.str ("/claim/cut.py") 523, Value.int 163 0, Value.int 2 0, Value.int 0 0, Value.int 0 0, Value.int 3 0, Value.ref 266, Value.bool true, Value.int 181 0, Value.ref 267, Value.none, Value.ref 268, Value.ref 269, Value.ref 270, Value.int 526 0, Value.int 163 0, Value.str ("/claim/cut.py") 527] }),
   (272, o272),
   (276, { cls := Value.type "code", data := Data.fields #[Value.str ("names_of") 529, Value.str ("names_of") 530, Value.str ("/claim/cut.py") 531, Value.int 167 0, Value.int 1 0, Value.int 0 0, Value.int 0 0, Value.int 3 0, Value.ref 273, Value.bool true, Value.int 181 0, Value.ref 274, Value.none, Value.none, Value.none, Value.ref 275, Value.int 532 0, Value.int 167 0, Value.str ("/claim/cut.py") 533] }),
   (277, o277),
   (283, { cls := Value.type "code", data := Data.fields #[Value.str ("dim_of") 535, Value.str ("dim_of") 536, Value.str ("/claim/cut.py") 537, Value.int 183 0, Value.int 1 0, Value.int 0 0, Value.int 0 0, Value.int 3 0, Value.ref 278, Value.bool true, Value.int 181 0, Value.ref 279, Value.none, Value.ref 280, Value.ref 281, Value.ref 282, Value.int 540 0, Value.int 183 0, Value.str ("/claim/cut.py") 541] }),
   (284, o284),
   (288, { cls := Value.type "code", data := Data.fields #[Value.str ("dimnames_of") 543, Value.str ("dimnames_of") 544, Value.str ("/claim/cut.py") 545, Value.int 188 0, Value.int 1 0, Value.int 0 0, Value.int 0 0, Value.int 3 0, Value.ref 285, Value.bool true, Value.int 181 0, Value.ref 286, Value.none, Value.none, Value.none, Value.ref 287, Value.int 546 0, Value.int 188 0, Value.str ("/claim/cut.py") 547] }),
   (289, o289),
   (295, { cls := Value.type "code", data := Data.fields #[Value.str ("class_attr") 549, Value.str ("class_attr") 550, Value.str ("/claim/cut.py") 551, Value.int 193 0, Value.int 1 0, Value.int 0 0, Value.int 0 0, Value.int 3 0, Value.ref 290, Value.bool true, Value.int 181 0, Value.ref 291, Value.none, Value.ref 292, Value.ref 293, Value.ref 294, Value.int 554 0, Value.int 193 0, Value.str ("/claim/cut.py") 555] }),
   (296, o296),
   (302, { cls := Value.type "code", data := Data.fields #[Value.str ("is_frame") 559, Value.str ("is_frame") 560, Value.str ("/claim/cut.py") 561, Value.int 199 0, Value.int 1 0, Value.int 0 0, Value.int 0 0, Value.int 3 0, Value.ref 297, Value.bool true, Value.int 181 0, Value.ref 298, Value.none, Value.ref 299, Value.ref 300, Value.ref 301, Value.int 565 0, Value.int 199 0, Value.str ("/claim/cut.py") 566] }),
   (303, o303),
   (307, { cls := Value.type "code", data := Data.fields #[Value.str ("new_frame") 568, Value.str ("new_frame") 569, Value.str ("/claim/cut.py") 570, Value.int 209 0, Value.int 3 0, Value.int 0 0, Value.int 0 0, Value.int 3 0, Value.ref 304, Value.bool true, Value.int 181 0, Value.ref 305, Value.none, Value.none, Value.none, Value.ref 306, Value.int 571 0, Value.int 209 0, Value.str ("/claim/cut.py") 572] }),
   (308, o308),
   (314, { cls := Value.type "code", data := Data.fields #[Value.str ("plain_rows") 574, Value.str ("plain_rows") 575, Value.str ("/claim/cut.py") 576, Value.int 213 0, Value.int 1 0, Value.int 0 0, Value.int 0 0, Value.int 3 0, Value.ref 309, Value.bool true, Value.int 181 0, Value.ref 310, Value.none, Value.ref 311, Value.ref 312, Value.ref 313, Value.int 578 0, Value.int 213 0, Value.str ("/claim/cut.py") 579] }),
   (315, o315),
   (321, { cls := Value.type "code", data := Data.fields #[Value.str ("frame_rows") 581, Value.str ("frame_rows") 582, Value.str ("/claim/cut.py") 583, Value.int 215 0, Value.int 1 0, Value.int 0 0, Value.int 0 0, Value.int 3 0, Value.ref 316, Value.bool true, Value.int 181 0, Value.ref 317, Value.none, Value.ref 318, Value.ref 319, Value.ref 320, Value.int 585 0, Value.int 215 0, Value.str ("/claim/cut.py") 586] }),
   (322, o322),
   (326, { cls := Value.type "code", data := Data.fields #[Value.str ("column_names") 588, Value.str ("column_names") 589, Value.str ("/claim/cut.py") 590, Value.int 219 0, Value.int 1 0, Value.int 0 0, Value.int 0 0, Value.int 3 0, Value.ref 323, Value.bool true, Value.int 181 0, Value.ref 324, Value.none, Value.none, Value.none, Value.ref 325, Value.int 591 0, Value.int 219 0, Value.str ("/claim/cut.py") 592] }),
   (327, o327),
   (333, { cls := Value.type "code", data := Data.fields #[Value.str ("kept_attrs") 594, Value.str ("kept_attrs") 595, Value.str ("/claim/cut.py") 596, Value.int 222 0, Value.int 1 0, Value.int 0 0, Value.int 0 0, Value.int 3 0, Value.ref 328, Value.bool true, Value.int 181 0, Value.ref 329, Value.none, Value.ref 330, Value.ref 331, Value.ref 332, Value.int 600 0, Value.int 222 0, Value.str ("/claim/cut.py") 601] }),
   (334, o334),
   (340, { cls := Value.type "code", data := Data.fields #[Value.str ("lacking") 603, Value.str ("lacking") 604, Value.str ("/claim/cut.py") 605, Value.int 230 0, Value.int 1 0, Value.int 0 0, Value.int 0 0, Value.int 3 0, Value.ref 335, Value.bool true, Value.int 181 0, Value.ref 336, Value.none, Value.ref 337, Value.ref 338, Value.ref 339, Value.int 607 0, Value.int 230 0, Value.str ("/claim/cut.py") 608] }),
   (341, o341),
   (347, { cls := Value.type "code", data := Data.fields #[Value.str ("pick_items") 610, Value.str ("pick_items") 611, Value.str ("/claim/cut.py") 612, Value.int 234 0, Value.int 2 0, Value.int 0 0, Value.int 0 0, Value.int 3 0, Value.ref 342, Value.bool true, Value.int 181 0, Value.ref 343, Value.none, Value.ref 344, Value.ref 345, Value.ref 346, Value.int 618 0, Value.int 234 0, Value.str ("/claim/cut.py") 619] }),
   (348, o348),
   (387, { cls := Value.type "code", data := Data.fields #[Value.str ("first_places") 667, Value.str ("first_places") 668, Value.str ("/claim/cut.py") 669, Value.int 293 0, Value.int 1 0, Value.int 0 0, Value.int 0 0, Value.int 3 0, Value.ref 382, Value.bool true, Value.int 181 0, Value.ref 383, Value.none, Value.ref 384, Value.ref 385, Value.ref 386, Value.int 674 0, Value.int 293 0, Value.str ("/claim/cut.py") 675] }),
   (388, o388),
   (401, { cls := Value.type "code", data := Data.fields #[Value.str ("extending_places") 688, Value.str ("extending_places") 689, Value.str ("/claim/cut.py") 690, Value.int 310 0, Value.int 3 0, Value.int 0 0, Value.int 0 0, Value.int 3 0, Value.ref 396, Value.bool true, Value.int 181 0, Value.ref 397, Value.none, Value.ref 398, Value.ref 399, Value.ref 400, Value.int 699 0, Value.int 310 0, Value.str ("/claim/cut.py") 700] }),
   (402, o402),
   (408, { cls := Value.type "code", data := Data.fields #[Value.str ("positions") 702, Value.str ("positions") 703, Value.str ("/claim/cut.py") 704, Value.int 324 0, Value.int 4 0, Value.int 0 0, Value.int 0 0, Value.int 3 0, Value.ref 403, Value.bool true, Value.int 181 0, Value.ref 404, Value.none, Value.ref 405, Value.ref 406, Value.ref 407, Value.int 710 0, Value.int 324 0, Value.str ("/claim/cut.py") 711] }),
   (409, o409),
   (413, { cls := Value.type "code", data := Data.fields #[Value.str ("fitted_column") 715, Value.str ("fitted_column") 716, Value.str ("/claim/cut.py") 717, Value.int 340 0, Value.int 2 0, Value.int 0 0, Value.int 0 0, Value.int 3 0, Value.ref 410, Value.bool true, Value.int 181 0, Value.ref 411, Value.none, Value.none, Value.none, Value.ref 412, Value.int 718 0, Value.int 340 0, Value.str ("/claim/cut.py") 719] }),
   (414, o414),
   (420, { cls := Value.type "code", data := Data.fields #[Value.str ("place_of_column") 721, Value.str ("place_of_column") 722, Value.str ("/claim/cut.py") 723, Value.int 351 0, Value.int 2 0, Value.int 0 0, Value.int 0 0, Value.int 3 0, Value.ref 415, Value.bool true, Value.int 181 0, Value.ref 416, Value.none, Value.ref 417, Value.ref 418, Value.ref 419, Value.int 730 0, Value.int 351 0, Value.str ("/claim/cut.py") 731] }),
   (421, o421),
   (427, { cls := Value.type "code", data := Data.fields #[Value.str ("assign_column") 733, Value.str ("assign_column") 734, Value.str ("/claim/cut.py") 735, Value.int 362 0, Value.int 3 0, Value.int 0 0, Value.int 0 0, Value.int 3 0, Value.ref 422, Value.bool true, Value.int 181 0, Value.ref 423, Value.none, Value.ref 424, Value.ref 425, Value.ref 426, Value.int 746 0, Value.int 362 0, Value.str ("/claim/cut.py") 747] }),
   (428, o428),
   (434, { cls := Value.type "code", data := Data.fields #[Value.str ("first_frame") 751, Value.str ("first_frame") 752, Value.str ("/claim/cut.py") 753, Value.int 383 0, Value.int 1 0, Value.int 0 0, Value.int 0 0, Value.int 3 0, Value.ref 429, Value.bool true, Value.int 181 0, Value.ref 430, Value.none, Value.ref 431, Value.ref 432, Value.ref 433, Value.int 755 0, Value.int 383 0, Value.str ("/claim/cut.py") 756] }),
   (435, o435),
   (441, { cls := Value.type "code", data := Data.fields #[Value.str ("b_set_dollar") 758, Value.str ("b_set_dollar") 759, Value.str ("/claim/cut.py") 760, Value.int 389 0, Value.int 3 0, Value.int 0 0, Value.int 0 0, Value.int 3 0, Value.ref 436, Value.bool true, Value.int 181 0, Value.ref 437, Value.none, Value.ref 438, Value.ref 439, Value.ref 440, Value.int 767 0, Value.int 389 0, Value.str ("/claim/cut.py") 768] }),
   (442, o442),
   (448, { cls := Value.type "code", data := Data.fields #[Value.str ("_law_dip") 772, Value.str ("_law_dip") 773, Value.str ("/claim/cut.py") 774, Value.int 398 0, Value.int 2 0, Value.int 0 0, Value.int 0 0, Value.int 3 0, Value.ref 443, Value.bool true, Value.int 181 0, Value.ref 444, Value.none, Value.ref 445, Value.ref 446, Value.ref 447, Value.int 778 0, Value.int 398 0, Value.str ("/claim/cut.py") 779] }),
   (449, o449),
   (453, { cls := Value.type "code", data := Data.fields #[Value.str ("_law_fresh") 781, Value.str ("_law_fresh") 782, Value.str ("/claim/cut.py") 783, Value.int 406 0, Value.int 3 0, Value.int 0 0, Value.int 0 0, Value.int 3 0, Value.ref 450, Value.bool true, Value.int 181 0, Value.ref 451, Value.none, Value.none, Value.none, Value.ref 452, Value.int 784 0, Value.int 406 0, Value.str ("/claim/cut.py") 785] }),
   (454, o454),
   (458, { cls := Value.type "code", data := Data.fields #[Value.str ("_law_told") 787, Value.str ("_law_told") 788, Value.str ("/claim/cut.py") 789, Value.int 420 0, Value.int 1 0, Value.int 0 0, Value.int 0 0, Value.int 3 0, Value.ref 455, Value.bool true, Value.int 181 0, Value.ref 456, Value.none, Value.none, Value.none, Value.ref 457, Value.int 790 0, Value.int 420 0, Value.str ("/claim/cut.py") 791] }),
   (459, o459),
   (463, { cls := Value.type "code", data := Data.fields #[Value.str ("_law_sheet") 793, Value.str ("_law_sheet") 794, Value.str ("/claim/cut.py") 795, Value.int 426 0, Value.int 2 0, Value.int 0 0, Value.int 0 0, Value.int 3 0, Value.ref 460, Value.bool true, Value.int 181 0, Value.ref 461, Value.none, Value.none, Value.none, Value.ref 462, Value.int 796 0, Value.int 426 0, Value.str ("/claim/cut.py") 797] }),
   (464, o464)]
noncomputable def kas : List Addr := [3, 30, 31, 47, 48, 50, 51, 66, 67, 69, 70, 82, 88, 89, 98, 99, 116, 117, 119, 120, 130, 131, 137, 138, 144, 145, 151, 152, 158, 159, 172, 173, 179, 180, 186, 187, 193, 194, 200, 201, 207, 208, 212, 213, 215, 216, 240, 241, 247, 251, 252, 258, 259, 260, 264, 265, 271, 272, 276, 277, 283, 284, 288, 289, 295, 296, 302, 303, 307, 308, 314, 315, 321, 322, 326, 327, 333, 334, 340, 341, 347, 348, 387, 388, 401, 402, 408, 409, 413, 414, 420, 421, 427, 428, 434, 435, 441, 442, 448, 449, 453, 454, 458, 459, 463, 464]
noncomputable def keep : List Nat := [0, 2, 3, 5, 6, 7, 8, 9, 10, 11, 12, 14, 15, 16, 17, 18, 20, 23, 24, 25, 26, 27, 29, 30, 31, 32, 33, 34, 35, 36, 38, 39, 41, 42, 43, 44, 45, 46, 47, 49, 50, 51, 53, 54, 56, 57, 58, 59, 60]
noncomputable def vw : Program := view pw keep
theorem kas_ok : ∀ P, kas = (KK P).map (·.1) := fun _ => rfl
noncomputable def lo : List Str := ["match_names", "take"]
noncomputable abbrev rr : RowW := PySem.Challenge.rw_sm0097_01.row.toRowW
noncomputable abbrev hook : Hook := kHook KK kas kas_ok
theorem b_open : ∀ w : World, (fencedOpening treeTable pw w 6104).map (fun s => (s.heap, s.gens, s.drawn, s.toks)) = some (boot_heap w.params, Array.mk [], boot_drawn, boot_toks) :=
  boot_open (by kernel_rfl) (by decide) fun _ => rfl
theorem b_size : ∀ w : World, ((boot_heap w.params).isNs mainGlobals && (Array.mk [] : Array GenState).size == 0, (boot_heap w.params).objs.size, (boot_heap w.params).nsMap mainGlobals "__annotations__") = (true, 11, some (.ref 6)) := by
  intro w
  rw [PySem.W.Fast.te8920871248978507458]
  kernel_rfl
noncomputable def mkT {p : Arguments} {b : List Stmt} {s : Scope} (nm qual : Str) : Foo (p, b, s) :=
  { cls := Value.none, data := Data.func { name := nm, qualname := qual, params := p, body := FuncBody.stmts b, scope := s, globals := 0, closure := [], defaults := Value.none, kwdefaults := Value.none } }
noncomputable def b2 (P : Params) : Obj := { cls := Value.none, data := Data.dict #[en P "type.__subclasses__.Exception.0" 212 (Value.int 31 0), en P "type.__subclasses__.Exception.n" 213 (Value.int 1 0)] 2 }
noncomputable def b3 (P : Params) : Obj := { cls := Value.type "dict", data := Data.dict #[en P "__name__" 165 (Value.str ("law_sm0097_01") 770), en P "__doc__" 166 (Value.none), en P "__package__" 167 (Value.none), en P "__loader__" 168 (Value.builtin "__main__.__loader__#opaque"), en P "__spec__" 169 (Value.none), en P "__annotations__" 170 (Value.ref 6), en P "__builtins__" 171 (Value.ref 4), en P "__file__" 173 (Value.str ("/claim/cut.py") 172), en P "__cached__" 174 (Value.none), en P "_wall" 193 (Value.ref 21), en P "CoveError" 215 (Value.ref 31), en P "Refusal" 240 (Value.ref 51), en P "Null" 271 (Value.ref 70), en P "Vector" 313 (Value.ref 99), en P "Symbol" 344 (Value.ref 120), en P "integer" 351 (Value.ref 131), en P "character" 358 (Value.ref 138), en P "length" 366 (Value.ref 145), en P "is_vector" 373 (Value.ref 152), en P "share" 380 (Value.ref 159), en P "Matching" 465 (Value.ref 216), en P "doubled_text" 472 (Value.ref 227), en P "argument_text" 484 (Value.ref 234), en P "plain_text" 492 (Value.ref 241), en P "unused_text" 498 (Value.ref 246), en P "match_names" 504 (Value.ref 252), en P "needed" 512 (Value.ref 259), en P "take" 518 (Value.ref 265), en P "get_attr" 528 (Value.ref 272), en P "names_of" 534 (Value.ref 277), en P "dim_of" 542 (Value.ref 284), en P "dimnames_of" 548 (Value.ref 289), en P "class_attr" 556 (Value.ref 296), en P "is_frame" 567 (Value.ref 303), en P "new_frame" 573 (Value.ref 308), en P "plain_rows" 580 (Value.ref 315), en P "frame_rows" 587 (Value.ref 322), en P "column_names" 593 (Value.ref 327), en P "kept_attrs" 602 (Value.ref 334), en P "lacking" 609 (Value.ref 341), en P "pick_items" 620 (Value.ref 348), en P "is_finite" 629 (Value.ref 355), en P "to_whole" 637 (Value.ref 362), en P "whole_subscripts" 648 (Value.ref 369), en P "logical_places" 660 (Value.ref 376), en P "whole_places" 666 (Value.ref 381), en P "first_places" 676 (Value.ref 388), en P "name_places" 687 (Value.ref 395), en P "extending_places" 701 (Value.ref 402), en P "positions" 712 (Value.ref 409), en P "fitted_column" 720 (Value.ref 414), en P "place_of_column" 732 (Value.ref 421), en P "assign_column" 748 (Value.ref 428), en P "first_frame" 757 (Value.ref 435), en P "b_set_dollar" 769 (Value.ref 442), en P "_law_dip" 780 (Value.ref 449), en P "_law_fresh" 786 (Value.ref 454), en P "_law_told" 792 (Value.ref 459), en P "_law_sheet" 798 (Value.ref 464), en P "law" 804 (Value.ref 469)] 60 }
noncomputable def b11 (P : Params) : Obj := { cls := Value.type "tuple", data := Data.seq #[] }
noncomputable def b12 (P : Params) : Obj := { cls := Value.none, data := Data.fields #[Value.int 1 0, Value.int 0 0, Value.ref 20, Value.int 5 0, Value.int 0 0, Value.ref 27, Value.int 7 0, Value.int 0 0, Value.ref 40, Value.int 12 0, Value.int 0 0, Value.ref 59, Value.int 17 0, Value.int 0 0, Value.ref 80, Value.int 28 0, Value.int 0 0, Value.ref 109, Value.int 34 0, Value.int 0 0, Value.ref 130, Value.int 36 0, Value.int 0 0, Value.ref 137, Value.int 38 0, Value.int 0 0, Value.ref 144, Value.int 49 0, Value.int 0 0, Value.ref 151, Value.int 51 0, Value.int 0 0, Value.ref 158, Value.int 56 0, Value.int 0 0, Value.ref 165, Value.int 109 0, Value.int 0 0, Value.ref 226, Value.int 111 0, Value.int 0 0, Value.ref 233, Value.int 117 0, Value.int 0 0, Value.ref 240, Value.int 132 0, Value.int 0 0, Value.ref 245, Value.int 138 0, Value.int 0 0, Value.ref 251, Value.int 147 0, Value.int 0 0, Value.ref 258, Value.int 151 0, Value.int 0 0, Value.ref 264, Value.int 163 0, Value.int 0 0, Value.ref 271, Value.int 167 0, Value.int 0 0, Value.ref 276, Value.int 183 0, Value.int 0 0, Value.ref 283, Value.int 188 0, Value.int 0 0, Value.ref 288, Value.int 193 0, Value.int 0 0, Value.ref 295, Value.int 199 0, Value.int 0 0, Value.ref 302, Value.int 209 0, Value.int 0 0, Value.ref 307, Value.int 213 0, Value.int 0 0, Value.ref 314, Value.int 215 0, Value.int 0 0, Value.ref 321, Value.int 219 0, Value.int 0 0, Value.ref 326, Value.int 222 0, Value.int 0 0, Value.ref 333, Value.int 230 0, Value.int 0 0, Value.ref 340, Value.int 234 0, Value.int 0 0, Value.ref 347, Value.int 244 0, Value.int 0 0, Value.ref 354, Value.int 246 0, Value.int 0 0, Value.ref 361, Value.int 252 0, Value.int 0 0, Value.ref 368, Value.int 262 0, Value.int 0 0, Value.ref 375, Value.int 274 0, Value.int 0 0, Value.ref 380, Value.int 293 0, Value.int 0 0, Value.ref 387, Value.int 301 0, Value.int 0 0, Value.ref 394, Value.int 310 0, Value.int 0 0, Value.ref 401, Value.int 324 0, Value.int 0 0, Value.ref 408, Value.int 340 0, Value.int 0 0, Value.ref 413, Value.int 351 0, Value.int 0 0, Value.ref 420, Value.int 362 0, Value.int 0 0, Value.ref 427, Value.int 383 0, Value.int 0 0, Value.ref 434, Value.int 389 0, Value.int 0 0, Value.ref 441, Value.int 398 0, Value.int 0 0, Value.ref 448, Value.int 406 0, Value.int 0 0, Value.ref 453, Value.int 420 0, Value.int 0 0, Value.ref 458, Value.int 426 0, Value.int 0 0, Value.ref 463, Value.int 430 0, Value.int 0 0, Value.ref 468] }
noncomputable def b13 (P : Params) : Obj := { cls := Value.type "code", data := Data.fields #[Value.str ("<module>") 182, Value.str ("<module>") 183, Value.str ("/claim/cut.py") 184, Value.int 1 0, Value.int 0 0, Value.int 0 0, Value.int 0 0, Value.int 0 0, Value.ref 11, Value.bool false, Value.int 181 0, Value.ref 12, Value.none, Value.none, Value.none, Value.none, Value.int 185 0, Value.int 1 0, Value.str ("/claim/cut.py") 186] }
noncomputable def b14 (P : Params) : Obj := { cls := Value.type "frame", slots := #[some (Value.ref 13), some (Value.ref 3), some (Value.ref 3), none, some (Value.str ("__main__") 164), none, some (Value.ref 0)] }
noncomputable def b15 (P : Params) : Obj := { cls := Value.type "tuple", data := Data.seq #[] }
noncomputable def b16 (P : Params) : Obj := { cls := Value.none, data := Data.fields #[] }
noncomputable def b17 (P : Params) : Obj := { cls := Value.type "tuple", data := Data.seq #[Value.str ("k") 190] }
noncomputable def b18 (P : Params) : Obj := { cls := Value.type "tuple", data := Data.seq #[] }
noncomputable def b19 : Obj := (mkT "_wall" "_wall" : Foo (fd (nS pb 0)))
noncomputable def b20 (P : Params) : Obj := { cls := Value.type "code", data := Data.fields #[Value.str ("_wall") 187, Value.str ("_wall") 188, Value.str ("/claim/cut.py") 189, Value.int 1 0, Value.int 1 0, Value.int 0 0, Value.int 0 0, Value.int 3 0, Value.ref 15, Value.bool true, Value.int 181 0, Value.ref 16, Value.none, Value.ref 17, Value.ref 18, Value.ref 19, Value.int 191 0, Value.int 1 0, Value.str ("/claim/cut.py") 192] }
noncomputable def b21 : Obj := (mkF "_wall" "_wall" (Value.none) "__main__" 164 (Value.ref 20) : Foo (fd (nS pb 0)))
noncomputable def b22 (P : Params) : Obj := { cls := Value.type "tuple", data := Data.seq #[Value.type "Exception"] }
noncomputable def b23 (P : Params) : Obj := { cls := Value.type "builtin_function_or_method", data := Data.fields #[Value.builtin "type.__prepare__", Value.type "type"] }
noncomputable def b24 (P : Params) : Obj := { cls := Value.type "dict", data := Data.dict #[en P "__module__" 203 (Value.str ("vectorcove.errors") 194), en P "__qualname__" 205 (Value.str ("CoveError") 204), en P "__firstlineno__" 207 (Value.int 5 206), en P "__static_attributes__" 208 (Value.ref 29)] 4 }
noncomputable def b25 (P : Params) : Obj := { cls := Value.type "tuple", data := Data.seq #[] }
noncomputable def b26 (P : Params) : Obj := { cls := Value.none, data := Data.fields #[] }
noncomputable def b27 (P : Params) : Obj := { cls := Value.type "code", data := Data.fields #[Value.str ("CoveError") 198, Value.str ("CoveError") 199, Value.str ("/claim/cut.py") 200, Value.int 5 0, Value.int 0 0, Value.int 0 0, Value.int 0 0, Value.int 0 0, Value.ref 25, Value.bool false, Value.int 181 0, Value.ref 26, Value.none, Value.none, Value.none, Value.none, Value.int 201 0, Value.int 5 0, Value.str ("/claim/cut.py") 202] }
noncomputable def b28 (P : Params) : Obj := { cls := Value.type "frame", slots := #[some (Value.ref 27), some (Value.ref 3), some (Value.ref 24), none, some (Value.str ("vectorcove.errors") 194), none, some (Value.ref 0)] }
noncomputable def b29 (P : Params) : Obj := { cls := Value.type "tuple", data := Data.seq #[] }
noncomputable def b30 (P : Params) : Obj := { cls := Value.type "dict", data := Data.dict #[en P "__module__" 203 (Value.str ("vectorcove.errors") 194), en P "__firstlineno__" 207 (Value.int 5 206), en P "__static_attributes__" 208 (Value.ref 29), en P "__weakref__" 210 (Value.ref 32), en P "__doc__" 211 (Value.none)] 3 }
noncomputable def b31 (P : Params) : Obj := { cls := Value.type "type", data := Data.cls { name := "CoveError", bases := [Value.type "Exception"], mro := [Value.ref 31, Value.type "Exception", Value.type "BaseException", Value.type "object"], ns := 30, qualname := "CoveError", subclasses := [Value.ref 51] }, slots := #[some (Value.ref 22), none, some (Value.str ("CoveError") 196), some (Value.str ("CoveError") 204), some (Value.builtin "Exception.__new__"), some (Value.bool true)] }
noncomputable def b32 (P : Params) : Obj := { cls := Value.type "getset_descriptor", data := Data.fields #[Value.str ("__weakref__") 209, Value.ref 31, Value.builtin "ExceptionGroup.__weakref__", Value.none] }
noncomputable def b33 (P : Params) : Obj := { cls := Value.type "super", data := Data.fields #[Value.ref 31, Value.ref 31, Value.ref 31] }
noncomputable def b34 (P : Params) : Obj := { cls := Value.type "builtin_function_or_method", data := Data.fields #[Value.builtin "object.__init_subclass__", Value.ref 31] }
noncomputable def b35 (P : Params) : Obj := { cls := Value.type "tuple", data := Data.seq #[Value.ref 31] }
noncomputable def b36 (P : Params) : Obj := { cls := Value.type "builtin_function_or_method", data := Data.fields #[Value.builtin "type.__prepare__", Value.type "type"] }
noncomputable def b37 (P : Params) : Obj := { cls := Value.type "dict", data := Data.dict #[en P "__module__" 223 (Value.str ("vectorcove.errors") 194), en P "__qualname__" 225 (Value.str ("Refusal") 224), en P "__firstlineno__" 227 (Value.int 7 226), en P "__init__" 235 (Value.ref 48), en P "__static_attributes__" 237 (Value.ref 49)] 5 }
noncomputable def b38 (P : Params) : Obj := { cls := Value.type "tuple", data := Data.seq #[] }
noncomputable def b39 (P : Params) : Obj := { cls := Value.none, data := Data.fields #[Value.int 9 0, Value.int 4 0, Value.ref 47] }
noncomputable def b40 (P : Params) : Obj := { cls := Value.type "code", data := Data.fields #[Value.str ("Refusal") 218, Value.str ("Refusal") 219, Value.str ("/claim/cut.py") 220, Value.int 7 0, Value.int 0 0, Value.int 0 0, Value.int 0 0, Value.int 0 0, Value.ref 38, Value.bool false, Value.int 181 0, Value.ref 39, Value.none, Value.none, Value.none, Value.none, Value.int 221 0, Value.int 7 0, Value.str ("/claim/cut.py") 222] }
noncomputable def b41 (P : Params) : Obj := { cls := Value.type "frame", slots := #[some (Value.ref 40), some (Value.ref 3), some (Value.ref 37), none, some (Value.str ("vectorcove.errors") 194), none, some (Value.ref 0)] }
noncomputable def b42 (P : Params) : Obj := { cls := Value.type "tuple", data := Data.seq #[] }
noncomputable def b43 (P : Params) : Obj := { cls := Value.none, data := Data.fields #[] }
noncomputable def b44 (P : Params) : Obj := { cls := Value.type "tuple", data := Data.seq #[Value.str ("self") 231, Value.str ("message") 232] }
noncomputable def b45 (P : Params) : Obj := { cls := Value.type "tuple", data := Data.seq #[] }
noncomputable def b46 : Obj := (mkT "__init__" "Refusal.__init__" : Foo (fd (nS (cb (nS pb 3)) 0)))
noncomputable def b47 (P : Params) : Obj := { cls := Value.type "code", data := Data.fields #[Value.str ("__init__") 228, Value.str ("Refusal.__init__") 229, Value.str ("/claim/cut.py") 230, Value.int 9 0, Value.int 2 0, Value.int 0 0, Value.int 0 0, Value.int 3 0, Value.ref 42, Value.bool true, Value.int 181 0, Value.ref 43, Value.none, Value.ref 44, Value.ref 45, Value.ref 46, Value.int 233 0, Value.int 9 0, Value.str ("/claim/cut.py") 234] }
noncomputable def b49 (P : Params) : Obj := { cls := Value.type "tuple", data := Data.seq #[Value.str ("message") 236] }
noncomputable def b50 (P : Params) : Obj := { cls := Value.type "dict", data := Data.dict #[en P "__module__" 223 (Value.str ("vectorcove.errors") 194), en P "__firstlineno__" 227 (Value.int 7 226), en P "__init__" 235 (Value.ref 48), en P "__static_attributes__" 237 (Value.ref 49), en P "__doc__" 238 (Value.none)] 2 }
noncomputable def b51 (P : Params) : Obj := { cls := Value.type "type", data := Data.cls { name := "Refusal", bases := [Value.ref 31], mro := [Value.ref 51, Value.ref 31, Value.type "Exception", Value.type "BaseException", Value.type "object"], ns := 50, qualname := "Refusal" }, slots := #[some (Value.ref 35), none, some (Value.str ("Refusal") 216), some (Value.str ("Refusal") 224), some (Value.builtin "Exception.__new__"), some (Value.bool true)] }
noncomputable def b52 (P : Params) : Obj := { cls := Value.type "super", data := Data.fields #[Value.ref 51, Value.ref 51, Value.ref 51] }
noncomputable def b53 (P : Params) : Obj := { cls := Value.type "builtin_function_or_method", data := Data.fields #[Value.builtin "object.__init_subclass__", Value.ref 51] }
noncomputable def b54 (P : Params) : Obj := { cls := Value.type "tuple", data := Data.seq #[] }
noncomputable def b55 (P : Params) : Obj := { cls := Value.type "builtin_function_or_method", data := Data.fields #[Value.builtin "type.__prepare__", Value.type "type"] }
noncomputable def b56 (P : Params) : Obj := { cls := Value.type "dict", data := Data.dict #[en P "__module__" 250 (Value.str ("vectorcove.values") 241), en P "__qualname__" 252 (Value.str ("Null") 251), en P "__firstlineno__" 254 (Value.int 12 253), en P "__init__" 261 (Value.ref 67), en P "__static_attributes__" 264 (Value.ref 68)] 5 }
noncomputable def b57 (P : Params) : Obj := { cls := Value.type "tuple", data := Data.seq #[] }
noncomputable def b58 (P : Params) : Obj := { cls := Value.none, data := Data.fields #[Value.int 14 0, Value.int 4 0, Value.ref 66] }
noncomputable def b59 (P : Params) : Obj := { cls := Value.type "code", data := Data.fields #[Value.str ("Null") 245, Value.str ("Null") 246, Value.str ("/claim/cut.py") 247, Value.int 12 0, Value.int 0 0, Value.int 0 0, Value.int 0 0, Value.int 0 0, Value.ref 57, Value.bool false, Value.int 181 0, Value.ref 58, Value.none, Value.none, Value.none, Value.none, Value.int 248 0, Value.int 12 0, Value.str ("/claim/cut.py") 249] }
noncomputable def b60 (P : Params) : Obj := { cls := Value.type "frame", slots := #[some (Value.ref 59), some (Value.ref 3), some (Value.ref 56), none, some (Value.str ("vectorcove.values") 241), none, some (Value.ref 0)] }
noncomputable def b61 (P : Params) : Obj := { cls := Value.type "tuple", data := Data.seq #[] }
noncomputable def b62 (P : Params) : Obj := { cls := Value.none, data := Data.fields #[] }
noncomputable def b63 (P : Params) : Obj := { cls := Value.type "tuple", data := Data.seq #[Value.str ("self") 258] }
noncomputable def b64 (P : Params) : Obj := { cls := Value.type "tuple", data := Data.seq #[] }
noncomputable def b65 : Obj := (mkT "__init__" "Null.__init__" : Foo (fd (nS (cb (nS pb 5)) 0)))
noncomputable def b66 (P : Params) : Obj := { cls := Value.type "code", data := Data.fields #[Value.str ("__init__") 255, Value.str ("Null.__init__") 256, Value.str ("/claim/cut.py") 257, Value.int 14 0, Value.int 1 0, Value.int 0 0, Value.int 0 0, Value.int 3 0, Value.ref 61, Value.bool true, Value.int 181 0, Value.ref 62, Value.none, Value.ref 63, Value.ref 64, Value.ref 65, Value.int 259 0, Value.int 14 0, Value.str ("/claim/cut.py") 260] }
noncomputable def b68 (P : Params) : Obj := { cls := Value.type "tuple", data := Data.seq #[Value.str ("attrs") 262, Value.str ("kind") 263] }
noncomputable def b69 (P : Params) : Obj := { cls := Value.type "dict", data := Data.dict #[en P "__module__" 250 (Value.str ("vectorcove.values") 241), en P "__firstlineno__" 254 (Value.int 12 253), en P "__init__" 261 (Value.ref 67), en P "__static_attributes__" 264 (Value.ref 68), en P "__dict__" 266 (Value.ref 71), en P "__weakref__" 268 (Value.ref 72), en P "__doc__" 269 (Value.none)] 4 }
noncomputable def b70 (P : Params) : Obj := { cls := Value.type "type", data := Data.cls { name := "Null", bases := [Value.type "object"], mro := [Value.ref 70, Value.type "object"], ns := 69, qualname := "Null" }, slots := #[none, none, some (Value.str ("Null") 243), some (Value.str ("Null") 251), some (Value.builtin "object.__new__"), some (Value.bool true)] }
noncomputable def b71 (P : Params) : Obj := { cls := Value.type "getset_descriptor", data := Data.fields #[Value.str ("__dict__") 265, Value.ref 70, Value.builtin "function.__dict__", Value.builtin "function.__dict__#set"] }
noncomputable def b72 (P : Params) : Obj := { cls := Value.type "getset_descriptor", data := Data.fields #[Value.str ("__weakref__") 267, Value.ref 70, Value.builtin "ExceptionGroup.__weakref__", Value.none] }
noncomputable def b73 (P : Params) : Obj := { cls := Value.type "super", data := Data.fields #[Value.ref 70, Value.ref 70, Value.ref 70] }
noncomputable def b74 (P : Params) : Obj := { cls := Value.type "builtin_function_or_method", data := Data.fields #[Value.builtin "object.__init_subclass__", Value.ref 70] }
noncomputable def b75 (P : Params) : Obj := { cls := Value.type "tuple", data := Data.seq #[] }
noncomputable def b76 (P : Params) : Obj := { cls := Value.type "builtin_function_or_method", data := Data.fields #[Value.builtin "type.__prepare__", Value.type "type"] }
noncomputable def b77 (P : Params) : Obj := { cls := Value.type "dict", data := Data.dict #[en P "__module__" 279 (Value.str ("vectorcove.values") 241), en P "__qualname__" 281 (Value.str ("Vector") 280), en P "__firstlineno__" 283 (Value.int 17 282), en P "__init__" 293 (Value.ref 89), en P "copy" 300 (Value.ref 96), en P "__static_attributes__" 306 (Value.ref 97)] 6 }
noncomputable def b78 (P : Params) : Obj := { cls := Value.type "tuple", data := Data.seq #[] }
noncomputable def b79 (P : Params) : Obj := { cls := Value.none, data := Data.fields #[Value.int 19 0, Value.int 4 0, Value.ref 88, Value.int 26 0, Value.int 4 0, Value.ref 95] }
noncomputable def b80 (P : Params) : Obj := { cls := Value.type "code", data := Data.fields #[Value.str ("Vector") 274, Value.str ("Vector") 275, Value.str ("/claim/cut.py") 276, Value.int 17 0, Value.int 0 0, Value.int 0 0, Value.int 0 0, Value.int 0 0, Value.ref 78, Value.bool false, Value.int 181 0, Value.ref 79, Value.none, Value.none, Value.none, Value.none, Value.int 277 0, Value.int 17 0, Value.str ("/claim/cut.py") 278] }
noncomputable def b81 (P : Params) : Obj := { cls := Value.type "frame", slots := #[some (Value.ref 80), some (Value.ref 3), some (Value.ref 77), none, some (Value.str ("vectorcove.values") 241), none, some (Value.ref 0)] }
noncomputable def b82 (P : Params) : Obj := { cls := Value.type "tuple", data := Data.seq #[Value.none] }
noncomputable def b83 (P : Params) : Obj := { cls := Value.type "tuple", data := Data.seq #[] }
noncomputable def b84 (P : Params) : Obj := { cls := Value.none, data := Data.fields #[] }
noncomputable def b85 (P : Params) : Obj := { cls := Value.type "tuple", data := Data.seq #[Value.str ("self") 287, Value.str ("kind") 288, Value.str ("items") 289, Value.str ("attrs") 290] }
noncomputable def b86 (P : Params) : Obj := { cls := Value.type "tuple", data := Data.seq #[] }
noncomputable def b87 : Obj := (mkT "__init__" "Vector.__init__" : Foo (fd (nS (cb (nS pb 6)) 0)))
noncomputable def b88 (P : Params) : Obj := { cls := Value.type "code", data := Data.fields #[Value.str ("__init__") 284, Value.str ("Vector.__init__") 285, Value.str ("/claim/cut.py") 286, Value.int 19 0, Value.int 4 0, Value.int 0 0, Value.int 0 0, Value.int 3 0, Value.ref 83, Value.bool true, Value.int 181 0, Value.ref 84, Value.none, Value.ref 85, Value.ref 86, Value.ref 87, Value.int 291 0, Value.int 19 0, Value.str ("/claim/cut.py") 292] }
noncomputable def b90 (P : Params) : Obj := { cls := Value.type "tuple", data := Data.seq #[] }
noncomputable def b91 (P : Params) : Obj := { cls := Value.none, data := Data.fields #[] }
noncomputable def b92 (P : Params) : Obj := { cls := Value.type "tuple", data := Data.seq #[Value.str ("self") 297] }
noncomputable def b93 (P : Params) : Obj := { cls := Value.type "tuple", data := Data.seq #[] }
noncomputable def b94 : Obj := (mkT "copy" "Vector.copy" : Foo (fd (nS (cb (nS pb 6)) 1)))
noncomputable def b95 (P : Params) : Obj := { cls := Value.type "code", data := Data.fields #[Value.str ("copy") 294, Value.str ("Vector.copy") 295, Value.str ("/claim/cut.py") 296, Value.int 26 0, Value.int 1 0, Value.int 0 0, Value.int 0 0, Value.int 3 0, Value.ref 90, Value.bool true, Value.int 181 0, Value.ref 91, Value.none, Value.ref 92, Value.ref 93, Value.ref 94, Value.int 298 0, Value.int 26 0, Value.str ("/claim/cut.py") 299] }
noncomputable def b96 : Obj := (mkF "copy" "Vector.copy" (Value.none) "vectorcove.values" 241 (Value.ref 95) : Foo (fd (nS (cb (nS pb 6)) 1)))
noncomputable def b97 (P : Params) : Obj := { cls := Value.type "tuple", data := Data.seq #[Value.str ("attrs") 301, Value.str ("items") 302, Value.str ("kind") 303, Value.str ("loose") 304, Value.str ("shared") 305] }
noncomputable def b98 (P : Params) : Obj := { cls := Value.type "dict", data := Data.dict #[en P "__module__" 279 (Value.str ("vectorcove.values") 241), en P "__firstlineno__" 283 (Value.int 17 282), en P "__init__" 293 (Value.ref 89), en P "copy" 300 (Value.ref 96), en P "__static_attributes__" 306 (Value.ref 97), en P "__dict__" 308 (Value.ref 100), en P "__weakref__" 310 (Value.ref 101), en P "__doc__" 311 (Value.none)] 4 }
noncomputable def b99 (P : Params) : Obj := { cls := Value.type "type", data := Data.cls { name := "Vector", bases := [Value.type "object"], mro := [Value.ref 99, Value.type "object"], ns := 98, qualname := "Vector" }, slots := #[none, none, some (Value.str ("Vector") 272), some (Value.str ("Vector") 280), some (Value.builtin "object.__new__"), some (Value.bool true)] }
noncomputable def b100 (P : Params) : Obj := { cls := Value.type "getset_descriptor", data := Data.fields #[Value.str ("__dict__") 307, Value.ref 99, Value.builtin "function.__dict__", Value.builtin "function.__dict__#set"] }
noncomputable def b101 (P : Params) : Obj := { cls := Value.type "getset_descriptor", data := Data.fields #[Value.str ("__weakref__") 309, Value.ref 99, Value.builtin "ExceptionGroup.__weakref__", Value.none] }
noncomputable def b102 (P : Params) : Obj := { cls := Value.type "super", data := Data.fields #[Value.ref 99, Value.ref 99, Value.ref 99] }
noncomputable def b103 (P : Params) : Obj := { cls := Value.type "builtin_function_or_method", data := Data.fields #[Value.builtin "object.__init_subclass__", Value.ref 99] }
noncomputable def b104 (P : Params) : Obj := { cls := Value.type "tuple", data := Data.seq #[] }
noncomputable def b105 (P : Params) : Obj := { cls := Value.type "builtin_function_or_method", data := Data.fields #[Value.builtin "type.__prepare__", Value.type "type"] }
noncomputable def b106 (P : Params) : Obj := { cls := Value.type "dict", data := Data.dict #[en P "__module__" 321 (Value.str ("vectorcove.values") 241), en P "__qualname__" 323 (Value.str ("Symbol") 322), en P "__firstlineno__" 325 (Value.int 28 324), en P "__init__" 333 (Value.ref 117), en P "__static_attributes__" 337 (Value.ref 118)] 5 }
noncomputable def b107 (P : Params) : Obj := { cls := Value.type "tuple", data := Data.seq #[] }
noncomputable def b108 (P : Params) : Obj := { cls := Value.none, data := Data.fields #[Value.int 30 0, Value.int 4 0, Value.ref 116] }
noncomputable def b109 (P : Params) : Obj := { cls := Value.type "code", data := Data.fields #[Value.str ("Symbol") 316, Value.str ("Symbol") 317, Value.str ("/claim/cut.py") 318, Value.int 28 0, Value.int 0 0, Value.int 0 0, Value.int 0 0, Value.int 0 0, Value.ref 107, Value.bool false, Value.int 181 0, Value.ref 108, Value.none, Value.none, Value.none, Value.none, Value.int 319 0, Value.int 28 0, Value.str ("/claim/cut.py") 320] }
noncomputable def b110 (P : Params) : Obj := { cls := Value.type "frame", slots := #[some (Value.ref 109), some (Value.ref 3), some (Value.ref 106), none, some (Value.str ("vectorcove.values") 241), none, some (Value.ref 0)] }
noncomputable def b111 (P : Params) : Obj := { cls := Value.type "tuple", data := Data.seq #[] }
noncomputable def b112 (P : Params) : Obj := { cls := Value.none, data := Data.fields #[] }
noncomputable def b113 (P : Params) : Obj := { cls := Value.type "tuple", data := Data.seq #[Value.str ("self") 329, Value.str ("name") 330] }
noncomputable def b114 (P : Params) : Obj := { cls := Value.type "tuple", data := Data.seq #[] }
noncomputable def b115 : Obj := (mkT "__init__" "Symbol.__init__" : Foo (fd (nS (cb (nS pb 7)) 0)))
noncomputable def b116 (P : Params) : Obj := { cls := Value.type "code", data := Data.fields #[Value.str ("__init__") 326, Value.str ("Symbol.__init__") 327, Value.str ("/claim/cut.py") 328, Value.int 30 0, Value.int 2 0, Value.int 0 0, Value.int 0 0, Value.int 3 0, Value.ref 111, Value.bool true, Value.int 181 0, Value.ref 112, Value.none, Value.ref 113, Value.ref 114, Value.ref 115, Value.int 331 0, Value.int 30 0, Value.str ("/claim/cut.py") 332] }
noncomputable def b118 (P : Params) : Obj := { cls := Value.type "tuple", data := Data.seq #[Value.str ("attrs") 334, Value.str ("kind") 335, Value.str ("name") 336] }
noncomputable def b119 (P : Params) : Obj := { cls := Value.type "dict", data := Data.dict #[en P "__module__" 321 (Value.str ("vectorcove.values") 241), en P "__firstlineno__" 325 (Value.int 28 324), en P "__init__" 333 (Value.ref 117), en P "__static_attributes__" 337 (Value.ref 118), en P "__dict__" 339 (Value.ref 121), en P "__weakref__" 341 (Value.ref 122), en P "__doc__" 342 (Value.none)] 4 }
noncomputable def b120 (P : Params) : Obj := { cls := Value.type "type", data := Data.cls { name := "Symbol", bases := [Value.type "object"], mro := [Value.ref 120, Value.type "object"], ns := 119, qualname := "Symbol" }, slots := #[none, none, some (Value.str ("Symbol") 314), some (Value.str ("Symbol") 322), some (Value.builtin "object.__new__"), some (Value.bool true)] }
noncomputable def b121 (P : Params) : Obj := { cls := Value.type "getset_descriptor", data := Data.fields #[Value.str ("__dict__") 338, Value.ref 120, Value.builtin "function.__dict__", Value.builtin "function.__dict__#set"] }
noncomputable def b122 (P : Params) : Obj := { cls := Value.type "getset_descriptor", data := Data.fields #[Value.str ("__weakref__") 340, Value.ref 120, Value.builtin "ExceptionGroup.__weakref__", Value.none] }
noncomputable def b123 (P : Params) : Obj := { cls := Value.type "super", data := Data.fields #[Value.ref 120, Value.ref 120, Value.ref 120] }
noncomputable def b124 (P : Params) : Obj := { cls := Value.type "builtin_function_or_method", data := Data.fields #[Value.builtin "object.__init_subclass__", Value.ref 120] }
noncomputable def b125 (P : Params) : Obj := { cls := Value.type "tuple", data := Data.seq #[] }
noncomputable def b126 (P : Params) : Obj := { cls := Value.none, data := Data.fields #[] }
noncomputable def b127 (P : Params) : Obj := { cls := Value.type "tuple", data := Data.seq #[Value.str ("items") 348] }
noncomputable def b128 (P : Params) : Obj := { cls := Value.type "tuple", data := Data.seq #[] }
noncomputable def b129 : Obj := (mkT "integer" "integer" : Foo (fd (nS pb 8)))
noncomputable def b130 (P : Params) : Obj := { cls := Value.type "code", data := Data.fields #[Value.str ("integer") 345, Value.str ("integer") 346, Value.str ("/claim/cut.py") 347, Value.int 34 0, Value.int 1 0, Value.int 0 0, Value.int 0 0, Value.int 3 0, Value.ref 125, Value.bool true, Value.int 181 0, Value.ref 126, Value.none, Value.ref 127, Value.ref 128, Value.ref 129, Value.int 349 0, Value.int 34 0, Value.str ("/claim/cut.py") 350] }
noncomputable def b132 (P : Params) : Obj := { cls := Value.type "tuple", data := Data.seq #[] }
noncomputable def b133 (P : Params) : Obj := { cls := Value.none, data := Data.fields #[] }
noncomputable def b134 (P : Params) : Obj := { cls := Value.type "tuple", data := Data.seq #[Value.str ("items") 355] }
noncomputable def b135 (P : Params) : Obj := { cls := Value.type "tuple", data := Data.seq #[] }
noncomputable def b136 : Obj := (mkT "character" "character" : Foo (fd (nS pb 9)))
noncomputable def b137 (P : Params) : Obj := { cls := Value.type "code", data := Data.fields #[Value.str ("character") 352, Value.str ("character") 353, Value.str ("/claim/cut.py") 354, Value.int 36 0, Value.int 1 0, Value.int 0 0, Value.int 0 0, Value.int 3 0, Value.ref 132, Value.bool true, Value.int 181 0, Value.ref 133, Value.none, Value.ref 134, Value.ref 135, Value.ref 136, Value.int 356 0, Value.int 36 0, Value.str ("/claim/cut.py") 357] }
noncomputable def b139 (P : Params) : Obj := { cls := Value.type "tuple", data := Data.seq #[] }
noncomputable def b140 (P : Params) : Obj := { cls := Value.none, data := Data.fields #[] }
noncomputable def b141 (P : Params) : Obj := { cls := Value.type "tuple", data := Data.seq #[Value.str ("v") 362, Value.str ("kind") 363] }
noncomputable def b142 (P : Params) : Obj := { cls := Value.type "tuple", data := Data.seq #[] }
noncomputable def b143 : Obj := (mkT "length" "length" : Foo (fd (nS pb 10)))
noncomputable def b144 (P : Params) : Obj := { cls := Value.type "code", data := Data.fields #[Value.str ("length") 359, Value.str ("length") 360, Value.str ("/claim/cut.py") 361, Value.int 38 0, Value.int 1 0, Value.int 0 0, Value.int 0 0, Value.int 3 0, Value.ref 139, Value.bool true, Value.int 181 0, Value.ref 140, Value.none, Value.ref 141, Value.ref 142, Value.ref 143, Value.int 364 0, Value.int 38 0, Value.str ("/claim/cut.py") 365] }
noncomputable def b146 (P : Params) : Obj := { cls := Value.type "tuple", data := Data.seq #[] }
noncomputable def b147 (P : Params) : Obj := { cls := Value.none, data := Data.fields #[] }
noncomputable def b148 (P : Params) : Obj := { cls := Value.type "tuple", data := Data.seq #[Value.str ("v") 370] }
noncomputable def b149 (P : Params) : Obj := { cls := Value.type "tuple", data := Data.seq #[] }
noncomputable def b150 : Obj := (mkT "is_vector" "is_vector" : Foo (fd (nS pb 11)))
noncomputable def b151 (P : Params) : Obj := { cls := Value.type "code", data := Data.fields #[Value.str ("is_vector") 367, Value.str ("is_vector") 368, Value.str ("/claim/cut.py") 369, Value.int 49 0, Value.int 1 0, Value.int 0 0, Value.int 0 0, Value.int 3 0, Value.ref 146, Value.bool true, Value.int 181 0, Value.ref 147, Value.none, Value.ref 148, Value.ref 149, Value.ref 150, Value.int 371 0, Value.int 49 0, Value.str ("/claim/cut.py") 372] }
noncomputable def b153 (P : Params) : Obj := { cls := Value.type "tuple", data := Data.seq #[] }
noncomputable def b154 (P : Params) : Obj := { cls := Value.none, data := Data.fields #[] }
noncomputable def b155 (P : Params) : Obj := { cls := Value.type "tuple", data := Data.seq #[Value.str ("v") 377] }
noncomputable def b156 (P : Params) : Obj := { cls := Value.type "tuple", data := Data.seq #[] }
noncomputable def b157 : Obj := (mkT "share" "share" : Foo (fd (nS pb 12)))
noncomputable def b158 (P : Params) : Obj := { cls := Value.type "code", data := Data.fields #[Value.str ("share") 374, Value.str ("share") 375, Value.str ("/claim/cut.py") 376, Value.int 51 0, Value.int 1 0, Value.int 0 0, Value.int 0 0, Value.int 3 0, Value.ref 153, Value.bool true, Value.int 181 0, Value.ref 154, Value.none, Value.ref 155, Value.ref 156, Value.ref 157, Value.int 378 0, Value.int 51 0, Value.str ("/claim/cut.py") 379] }
noncomputable def b160 (P : Params) : Obj := { cls := Value.type "tuple", data := Data.seq #[] }
noncomputable def b161 (P : Params) : Obj := { cls := Value.type "builtin_function_or_method", data := Data.fields #[Value.builtin "type.__prepare__", Value.type "type"] }
noncomputable def b162 (P : Params) : Obj := { cls := Value.type "dict", data := Data.dict #[en P "__module__" 390 (Value.str ("vectorcove.callargs") 381), en P "__qualname__" 392 (Value.str ("Matching") 391), en P "__firstlineno__" 394 (Value.int 56 393), en P "__init__" 403 (Value.ref 173), en P "exact" 412 (Value.ref 180), en P "partial" 420 (Value.ref 187), en P "partial_of" 430 (Value.ref 194), en P "positional" 439 (Value.ref 201), en P "is_free" 447 (Value.ref 208), en P "rest" 453 (Value.ref 213), en P "__static_attributes__" 458 (Value.ref 214)] 11 }
noncomputable def b163 (P : Params) : Obj := { cls := Value.type "tuple", data := Data.seq #[] }
noncomputable def b164 (P : Params) : Obj := { cls := Value.none, data := Data.fields #[Value.int 58 0, Value.int 4 0, Value.ref 172, Value.int 64 0, Value.int 4 0, Value.ref 179, Value.int 74 0, Value.int 4 0, Value.ref 186, Value.int 81 0, Value.int 4 0, Value.ref 193, Value.int 92 0, Value.int 4 0, Value.ref 200, Value.int 104 0, Value.int 4 0, Value.ref 207, Value.int 107 0, Value.int 4 0, Value.ref 212] }
noncomputable def b165 (P : Params) : Obj := { cls := Value.type "code", data := Data.fields #[Value.str ("Matching") 385, Value.str ("Matching") 386, Value.str ("/claim/cut.py") 387, Value.int 56 0, Value.int 0 0, Value.int 0 0, Value.int 0 0, Value.int 0 0, Value.ref 163, Value.bool false, Value.int 181 0, Value.ref 164, Value.none, Value.none, Value.none, Value.none, Value.int 388 0, Value.int 56 0, Value.str ("/claim/cut.py") 389] }
noncomputable def b166 (P : Params) : Obj := { cls := Value.type "frame", slots := #[some (Value.ref 165), some (Value.ref 3), some (Value.ref 162), none, some (Value.str ("vectorcove.callargs") 381), none, some (Value.ref 0)] }
noncomputable def b167 (P : Params) : Obj := { cls := Value.type "tuple", data := Data.seq #[] }
noncomputable def b168 (P : Params) : Obj := { cls := Value.none, data := Data.fields #[] }
noncomputable def b169 (P : Params) : Obj := { cls := Value.type "tuple", data := Data.seq #[Value.str ("self") 398, Value.str ("formals") 399, Value.str ("tags") 400] }
noncomputable def b170 (P : Params) : Obj := { cls := Value.type "tuple", data := Data.seq #[] }
noncomputable def b171 : Obj := (mkT "__init__" "Matching.__init__" : Foo (fd (nS (cb (nS pb 14)) 0)))
noncomputable def b172 (P : Params) : Obj := { cls := Value.type "code", data := Data.fields #[Value.str ("__init__") 395, Value.str ("Matching.__init__") 396, Value.str ("/claim/cut.py") 397, Value.int 58 0, Value.int 3 0, Value.int 0 0, Value.int 0 0, Value.int 3 0, Value.ref 167, Value.bool true, Value.int 181 0, Value.ref 168, Value.none, Value.ref 169, Value.ref 170, Value.ref 171, Value.int 401 0, Value.int 58 0, Value.str ("/claim/cut.py") 402] }
noncomputable def b174 (P : Params) : Obj := { cls := Value.type "tuple", data := Data.seq #[] }
noncomputable def b175 (P : Params) : Obj := { cls := Value.none, data := Data.fields #[] }
noncomputable def b176 (P : Params) : Obj := { cls := Value.type "tuple", data := Data.seq #[Value.str ("self") 407, Value.str ("name") 408, Value.str ("place") 409] }
noncomputable def b177 (P : Params) : Obj := { cls := Value.type "tuple", data := Data.seq #[] }
noncomputable def b178 : Obj := (mkT "exact" "Matching.exact" : Foo (fd (nS (cb (nS pb 14)) 1)))
noncomputable def b179 (P : Params) : Obj := { cls := Value.type "code", data := Data.fields #[Value.str ("exact") 404, Value.str ("Matching.exact") 405, Value.str ("/claim/cut.py") 406, Value.int 64 0, Value.int 1 0, Value.int 0 0, Value.int 0 0, Value.int 3 0, Value.ref 174, Value.bool true, Value.int 181 0, Value.ref 175, Value.none, Value.ref 176, Value.ref 177, Value.ref 178, Value.int 410 0, Value.int 64 0, Value.str ("/claim/cut.py") 411] }
noncomputable def b181 (P : Params) : Obj := { cls := Value.type "tuple", data := Data.seq #[] }
noncomputable def b182 (P : Params) : Obj := { cls := Value.none, data := Data.fields #[] }
noncomputable def b183 (P : Params) : Obj := { cls := Value.type "tuple", data := Data.seq #[Value.str ("self") 416, Value.str ("name") 417] }
noncomputable def b184 (P : Params) : Obj := { cls := Value.type "tuple", data := Data.seq #[] }
noncomputable def b185 : Obj := (mkT "partial" "Matching.partial" : Foo (fd (nS (cb (nS pb 14)) 2)))
noncomputable def b186 (P : Params) : Obj := { cls := Value.type "code", data := Data.fields #[Value.str ("partial") 413, Value.str ("Matching.partial") 414, Value.str ("/claim/cut.py") 415, Value.int 74 0, Value.int 1 0, Value.int 0 0, Value.int 0 0, Value.int 3 0, Value.ref 181, Value.bool true, Value.int 181 0, Value.ref 182, Value.none, Value.ref 183, Value.ref 184, Value.ref 185, Value.int 418 0, Value.int 74 0, Value.str ("/claim/cut.py") 419] }
noncomputable def b188 (P : Params) : Obj := { cls := Value.type "tuple", data := Data.seq #[] }
noncomputable def b189 (P : Params) : Obj := { cls := Value.none, data := Data.fields #[] }
noncomputable def b190 (P : Params) : Obj := { cls := Value.type "tuple", data := Data.seq #[Value.str ("self") 424, Value.str ("name") 425, Value.str ("place") 426, Value.str ("tag") 427] }
noncomputable def b191 (P : Params) : Obj := { cls := Value.type "tuple", data := Data.seq #[] }
noncomputable def b192 : Obj := (mkT "partial_of" "Matching.partial_of" : Foo (fd (nS (cb (nS pb 14)) 3)))
noncomputable def b193 (P : Params) : Obj := { cls := Value.type "code", data := Data.fields #[Value.str ("partial_of") 421, Value.str ("Matching.partial_of") 422, Value.str ("/claim/cut.py") 423, Value.int 81 0, Value.int 2 0, Value.int 0 0, Value.int 0 0, Value.int 3 0, Value.ref 188, Value.bool true, Value.int 181 0, Value.ref 189, Value.none, Value.ref 190, Value.ref 191, Value.ref 192, Value.int 428 0, Value.int 81 0, Value.str ("/claim/cut.py") 429] }
noncomputable def b195 (P : Params) : Obj := { cls := Value.type "tuple", data := Data.seq #[] }
noncomputable def b196 (P : Params) : Obj := { cls := Value.none, data := Data.fields #[] }
noncomputable def b197 (P : Params) : Obj := { cls := Value.type "tuple", data := Data.seq #[Value.str ("self") 434, Value.str ("place") 435, Value.str ("name") 436] }
noncomputable def b198 (P : Params) : Obj := { cls := Value.type "tuple", data := Data.seq #[] }
noncomputable def b199 : Obj := (mkT "positional" "Matching.positional" : Foo (fd (nS (cb (nS pb 14)) 4)))
noncomputable def b200 (P : Params) : Obj := { cls := Value.type "code", data := Data.fields #[Value.str ("positional") 431, Value.str ("Matching.positional") 432, Value.str ("/claim/cut.py") 433, Value.int 92 0, Value.int 1 0, Value.int 0 0, Value.int 0 0, Value.int 3 0, Value.ref 195, Value.bool true, Value.int 181 0, Value.ref 196, Value.none, Value.ref 197, Value.ref 198, Value.ref 199, Value.int 437 0, Value.int 92 0, Value.str ("/claim/cut.py") 438] }
noncomputable def b202 (P : Params) : Obj := { cls := Value.type "tuple", data := Data.seq #[] }
noncomputable def b203 (P : Params) : Obj := { cls := Value.none, data := Data.fields #[] }
noncomputable def b204 (P : Params) : Obj := { cls := Value.type "tuple", data := Data.seq #[Value.str ("self") 443, Value.str ("place") 444] }
noncomputable def b205 (P : Params) : Obj := { cls := Value.type "tuple", data := Data.seq #[] }
noncomputable def b206 : Obj := (mkT "is_free" "Matching.is_free" : Foo (fd (nS (cb (nS pb 14)) 5)))
noncomputable def b207 (P : Params) : Obj := { cls := Value.type "code", data := Data.fields #[Value.str ("is_free") 440, Value.str ("Matching.is_free") 441, Value.str ("/claim/cut.py") 442, Value.int 104 0, Value.int 2 0, Value.int 0 0, Value.int 0 0, Value.int 3 0, Value.ref 202, Value.bool true, Value.int 181 0, Value.ref 203, Value.none, Value.ref 204, Value.ref 205, Value.ref 206, Value.int 445 0, Value.int 104 0, Value.str ("/claim/cut.py") 446] }
noncomputable def b209 (P : Params) : Obj := { cls := Value.type "tuple", data := Data.seq #[] }
noncomputable def b210 (P : Params) : Obj := { cls := Value.none, data := Data.fields #[] }
noncomputable def b211 : Obj := (mkT "rest" "Matching.rest" : Foo (fd (nS (cb (nS pb 14)) 6)))
noncomputable def b212 (P : Params) : Obj := { cls := Value.type "code", data := Data.fields #[Value.str ("rest") 448, Value.str ("Matching.rest") 449, Value.str ("/claim/cut.py") 450, Value.int 107 0, Value.int 1 0, Value.int 0 0, Value.int 0 0, Value.int 3 0, Value.ref 209, Value.bool true, Value.int 181 0, Value.ref 210, Value.none, Value.none, Value.none, Value.ref 211, Value.int 451 0, Value.int 107 0, Value.str ("/claim/cut.py") 452] }
noncomputable def b214 (P : Params) : Obj := { cls := Value.type "tuple", data := Data.seq #[Value.str ("formals") 454, Value.str ("places") 455, Value.str ("tags") 456, Value.str ("used") 457] }
noncomputable def b215 (P : Params) : Obj := { cls := Value.type "dict", data := Data.dict #[en P "__module__" 390 (Value.str ("vectorcove.callargs") 381), en P "__firstlineno__" 394 (Value.int 56 393), en P "__init__" 403 (Value.ref 173), en P "exact" 412 (Value.ref 180), en P "partial" 420 (Value.ref 187), en P "partial_of" 430 (Value.ref 194), en P "positional" 439 (Value.ref 201), en P "is_free" 447 (Value.ref 208), en P "rest" 453 (Value.ref 213), en P "__static_attributes__" 458 (Value.ref 214), en P "__dict__" 460 (Value.ref 217), en P "__weakref__" 462 (Value.ref 218), en P "__doc__" 463 (Value.none)] 4 }
noncomputable def b216 (P : Params) : Obj := { cls := Value.type "type", data := Data.cls { name := "Matching", bases := [Value.type "object"], mro := [Value.ref 216, Value.type "object"], ns := 215, qualname := "Matching" }, slots := #[none, none, some (Value.str ("Matching") 383), some (Value.str ("Matching") 391), some (Value.builtin "object.__new__"), some (Value.bool true)] }
noncomputable def b217 (P : Params) : Obj := { cls := Value.type "getset_descriptor", data := Data.fields #[Value.str ("__dict__") 459, Value.ref 216, Value.builtin "function.__dict__", Value.builtin "function.__dict__#set"] }
noncomputable def b218 (P : Params) : Obj := { cls := Value.type "getset_descriptor", data := Data.fields #[Value.str ("__weakref__") 461, Value.ref 216, Value.builtin "ExceptionGroup.__weakref__", Value.none] }
noncomputable def b219 (P : Params) : Obj := { cls := Value.type "super", data := Data.fields #[Value.ref 216, Value.ref 216, Value.ref 216] }
noncomputable def b220 (P : Params) : Obj := { cls := Value.type "builtin_function_or_method", data := Data.fields #[Value.builtin "object.__init_subclass__", Value.ref 216] }
noncomputable def b221 (P : Params) : Obj := { cls := Value.type "tuple", data := Data.seq #[] }
noncomputable def b222 (P : Params) : Obj := { cls := Value.none, data := Data.fields #[] }
noncomputable def b223 (P : Params) : Obj := { cls := Value.type "tuple", data := Data.seq #[Value.str ("name") 469] }
noncomputable def b224 (P : Params) : Obj := { cls := Value.type "tuple", data := Data.seq #[] }
noncomputable def b225 : Obj := (mkT "doubled_text" "doubled_text" : Foo (fd (nS pb 15)))
noncomputable def b226 (P : Params) : Obj := { cls := Value.type "code", data := Data.fields #[Value.str ("doubled_text") 466, Value.str ("doubled_text") 467, Value.str ("/claim/cut.py") 468, Value.int 109 0, Value.int 1 0, Value.int 0 0, Value.int 0 0, Value.int 3 0, Value.ref 221, Value.bool true, Value.int 181 0, Value.ref 222, Value.none, Value.ref 223, Value.ref 224, Value.ref 225, Value.int 470 0, Value.int 109 0, Value.str ("/claim/cut.py") 471] }
noncomputable def b227 : Obj := (mkF "doubled_text" "doubled_text" (Value.none) "vectorcove.callargs" 381 (Value.ref 226) : Foo (fd (nS pb 15)))
noncomputable def b228 (P : Params) : Obj := { cls := Value.type "tuple", data := Data.seq #[] }
noncomputable def b229 (P : Params) : Obj := { cls := Value.none, data := Data.fields #[] }
noncomputable def b230 (P : Params) : Obj := { cls := Value.type "tuple", data := Data.seq #[Value.str ("args") 476, Value.str ("place") 477, Value.str ("show") 478, Value.str ("tag") 479, Value.str ("value") 480, Value.str ("told") 481] }
noncomputable def b231 (P : Params) : Obj := { cls := Value.type "tuple", data := Data.seq #[] }
noncomputable def b232 : Obj := (mkT "argument_text" "argument_text" : Foo (fd (nS pb 16)))
noncomputable def b233 (P : Params) : Obj := { cls := Value.type "code", data := Data.fields #[Value.str ("argument_text") 473, Value.str ("argument_text") 474, Value.str ("/claim/cut.py") 475, Value.int 111 0, Value.int 3 0, Value.int 0 0, Value.int 0 0, Value.int 3 0, Value.ref 228, Value.bool true, Value.int 181 0, Value.ref 229, Value.none, Value.ref 230, Value.ref 231, Value.ref 232, Value.int 482 0, Value.int 111 0, Value.str ("/claim/cut.py") 483] }
noncomputable def b234 : Obj := (mkF "argument_text" "argument_text" (Value.none) "vectorcove.callargs" 381 (Value.ref 233) : Foo (fd (nS pb 16)))
noncomputable def b235 (P : Params) : Obj := { cls := Value.type "tuple", data := Data.seq #[] }
noncomputable def b236 (P : Params) : Obj := { cls := Value.none, data := Data.fields #[] }
noncomputable def b237 (P : Params) : Obj := { cls := Value.type "tuple", data := Data.seq #[Value.str ("value") 488, Value.str ("item") 489] }
noncomputable def b238 (P : Params) : Obj := { cls := Value.type "tuple", data := Data.seq #[] }
noncomputable def b239 : Obj := (mkT "plain_text" "plain_text" : Foo (fd (nS pb 17)))
noncomputable def b240 (P : Params) : Obj := { cls := Value.type "code", data := Data.fields #[Value.str ("plain_text") 485, Value.str ("plain_text") 486, Value.str ("/claim/cut.py") 487, Value.int 117 0, Value.int 1 0, Value.int 0 0, Value.int 0 0, Value.int 3 0, Value.ref 235, Value.bool true, Value.int 181 0, Value.ref 236, Value.none, Value.ref 237, Value.ref 238, Value.ref 239, Value.int 490 0, Value.int 117 0, Value.str ("/claim/cut.py") 491] }
noncomputable def b242 (P : Params) : Obj := { cls := Value.type "tuple", data := Data.seq #[] }
noncomputable def b243 (P : Params) : Obj := { cls := Value.none, data := Data.fields #[] }
noncomputable def b244 : Obj := (mkT "unused_text" "unused_text" : Foo (fd (nS pb 18)))
noncomputable def b245 (P : Params) : Obj := { cls := Value.type "code", data := Data.fields #[Value.str ("unused_text") 493, Value.str ("unused_text") 494, Value.str ("/claim/cut.py") 495, Value.int 132 0, Value.int 3 0, Value.int 0 0, Value.int 0 0, Value.int 3 0, Value.ref 242, Value.bool true, Value.int 181 0, Value.ref 243, Value.none, Value.none, Value.none, Value.ref 244, Value.int 496 0, Value.int 132 0, Value.str ("/claim/cut.py") 497] }
noncomputable def b246 : Obj := (mkF "unused_text" "unused_text" (Value.none) "vectorcove.callargs" 381 (Value.ref 245) : Foo (fd (nS pb 18)))
noncomputable def b247 (P : Params) : Obj := { cls := Value.type "tuple", data := Data.seq #[Value.none] }
noncomputable def b248 (P : Params) : Obj := { cls := Value.type "tuple", data := Data.seq #[] }
noncomputable def b249 (P : Params) : Obj := { cls := Value.none, data := Data.fields #[] }
noncomputable def b250 : Obj := (mkT "match_names" "match_names" : Foo (fd (nS pb 19)))
noncomputable def b251 (P : Params) : Obj := { cls := Value.type "code", data := Data.fields #[Value.str ("match_names") 499, Value.str ("match_names") 500, Value.str ("/claim/cut.py") 501, Value.int 138 0, Value.int 3 0, Value.int 0 0, Value.int 0 0, Value.int 3 0, Value.ref 248, Value.bool true, Value.int 181 0, Value.ref 249, Value.none, Value.none, Value.none, Value.ref 250, Value.int 502 0, Value.int 138 0, Value.str ("/claim/cut.py") 503] }
noncomputable def b253 (P : Params) : Obj := { cls := Value.type "tuple", data := Data.seq #[] }
noncomputable def b254 (P : Params) : Obj := { cls := Value.none, data := Data.fields #[] }
noncomputable def b255 (P : Params) : Obj := { cls := Value.type "tuple", data := Data.seq #[Value.str ("value") 508, Value.str ("name") 509] }
noncomputable def b256 (P : Params) : Obj := { cls := Value.type "tuple", data := Data.seq #[] }
noncomputable def b257 : Obj := (mkT "needed" "needed" : Foo (fd (nS pb 20)))
noncomputable def b258 (P : Params) : Obj := { cls := Value.type "code", data := Data.fields #[Value.str ("needed") 505, Value.str ("needed") 506, Value.str ("/claim/cut.py") 507, Value.int 147 0, Value.int 2 0, Value.int 0 0, Value.int 0 0, Value.int 3 0, Value.ref 253, Value.bool true, Value.int 181 0, Value.ref 254, Value.none, Value.ref 255, Value.ref 256, Value.ref 257, Value.int 510 0, Value.int 147 0, Value.str ("/claim/cut.py") 511] }
noncomputable def b260 (P : Params) : Obj := { cls := Value.type "tuple", data := Data.seq #[Value.none] }
noncomputable def b261 (P : Params) : Obj := { cls := Value.type "tuple", data := Data.seq #[] }
noncomputable def b262 (P : Params) : Obj := { cls := Value.none, data := Data.fields #[] }
noncomputable def b263 : Obj := (mkT "take" "take" : Foo (fd (nS pb 21)))
noncomputable def b264 (P : Params) : Obj := { cls := Value.type "code", data := Data.fields #[Value.str ("take") 513, Value.str ("take") 514, Value.str ("/claim/cut.py") 515, Value.int 151 0, Value.int 3 0, Value.int 0 0, Value.int 0 0, Value.int 3 0, Value.ref 261, Value.bool true, Value.int 181 0, Value.ref 262, Value.none, Value.none, Value.none, Value.ref 263, Value.int 516 0, Value.int 151 0, Value.str ("/claim/cut.py") 517] }
noncomputable def b266 (P : Params) : Obj := { cls := Value.type "tuple", data := Data.seq #[] }
noncomputable def b267 (P : Params) : Obj := { cls := Value.none, data := Data.fields #[] }
noncomputable def b268 (P : Params) : Obj := { cls := Value.type "tuple", data := Data.seq #[Value.str ("v") 524, Value.str ("name") 525] }
noncomputable def b269 (P : Params) : Obj := { cls := Value.type "tuple", data := Data.seq #[] }
noncomputable def b270 : Obj := (mkT "get_attr" "get_attr" : Foo (fd (nS pb 23)))
noncomputable def b271 (P : Params) : Obj := { cls := Value.type "code", data := Data.fields #[Value.str ("get_attr") 521, Value.str ("get_attr") 522, Value.str ("/claim/cut.py") 523, Value.int 163 0, Value.int 2 0, Value.int 0 0, Value.int 0 0, Value.int 3 0, Value.ref 266, Value.bool true, Value.int 181 0, Value.ref 267, Value.none, Value.ref 268, Value.ref 269, Value.ref 270, Value.int 526 0, Value.int 163 0, Value.str ("/claim/cut.py") 527] }
noncomputable def b273 (P : Params) : Obj := { cls := Value.type "tuple", data := Data.seq #[] }
noncomputable def b274 (P : Params) : Obj := { cls := Value.none, data := Data.fields #[] }
noncomputable def b275 : Obj := (mkT "names_of" "names_of" : Foo (fd (nS pb 24)))
noncomputable def b276 (P : Params) : Obj := { cls := Value.type "code", data := Data.fields #[Value.str ("names_of") 529, Value.str ("names_of") 530, Value.str ("/claim/cut.py") 531, Value.int 167 0, Value.int 1 0, Value.int 0 0, Value.int 0 0, Value.int 3 0, Value.ref 273, Value.bool true, Value.int 181 0, Value.ref 274, Value.none, Value.none, Value.none, Value.ref 275, Value.int 532 0, Value.int 167 0, Value.str ("/claim/cut.py") 533] }
noncomputable def b278 (P : Params) : Obj := { cls := Value.type "tuple", data := Data.seq #[] }
noncomputable def b279 (P : Params) : Obj := { cls := Value.none, data := Data.fields #[] }
noncomputable def b280 (P : Params) : Obj := { cls := Value.type "tuple", data := Data.seq #[Value.str ("v") 538, Value.str ("dims") 539] }
noncomputable def b281 (P : Params) : Obj := { cls := Value.type "tuple", data := Data.seq #[] }
noncomputable def b282 : Obj := (mkT "dim_of" "dim_of" : Foo (fd (nS pb 25)))
noncomputable def b283 (P : Params) : Obj := { cls := Value.type "code", data := Data.fields #[Value.str ("dim_of") 535, Value.str ("dim_of") 536, Value.str ("/claim/cut.py") 537, Value.int 183 0, Value.int 1 0, Value.int 0 0, Value.int 0 0, Value.int 3 0, Value.ref 278, Value.bool true, Value.int 181 0, Value.ref 279, Value.none, Value.ref 280, Value.ref 281, Value.ref 282, Value.int 540 0, Value.int 183 0, Value.str ("/claim/cut.py") 541] }
noncomputable def b285 (P : Params) : Obj := { cls := Value.type "tuple", data := Data.seq #[] }
noncomputable def b286 (P : Params) : Obj := { cls := Value.none, data := Data.fields #[] }
noncomputable def b287 : Obj := (mkT "dimnames_of" "dimnames_of" : Foo (fd (nS pb 26)))
noncomputable def b288 (P : Params) : Obj := { cls := Value.type "code", data := Data.fields #[Value.str ("dimnames_of") 543, Value.str ("dimnames_of") 544, Value.str ("/claim/cut.py") 545, Value.int 188 0, Value.int 1 0, Value.int 0 0, Value.int 0 0, Value.int 3 0, Value.ref 285, Value.bool true, Value.int 181 0, Value.ref 286, Value.none, Value.none, Value.none, Value.ref 287, Value.int 546 0, Value.int 188 0, Value.str ("/claim/cut.py") 547] }
noncomputable def b290 (P : Params) : Obj := { cls := Value.type "tuple", data := Data.seq #[] }
noncomputable def b291 (P : Params) : Obj := { cls := Value.none, data := Data.fields #[] }
noncomputable def b292 (P : Params) : Obj := { cls := Value.type "tuple", data := Data.seq #[Value.str ("v") 552, Value.str ("found") 553] }
noncomputable def b293 (P : Params) : Obj := { cls := Value.type "tuple", data := Data.seq #[] }
noncomputable def b294 : Obj := (mkT "class_attr" "class_attr" : Foo (fd (nS pb 27)))
noncomputable def b295 (P : Params) : Obj := { cls := Value.type "code", data := Data.fields #[Value.str ("class_attr") 549, Value.str ("class_attr") 550, Value.str ("/claim/cut.py") 551, Value.int 193 0, Value.int 1 0, Value.int 0 0, Value.int 0 0, Value.int 3 0, Value.ref 290, Value.bool true, Value.int 181 0, Value.ref 291, Value.none, Value.ref 292, Value.ref 293, Value.ref 294, Value.int 554 0, Value.int 193 0, Value.str ("/claim/cut.py") 555] }
noncomputable def b297 (P : Params) : Obj := { cls := Value.type "tuple", data := Data.seq #[] }
noncomputable def b298 (P : Params) : Obj := { cls := Value.none, data := Data.fields #[] }
noncomputable def b299 (P : Params) : Obj := { cls := Value.type "tuple", data := Data.seq #[Value.str ("v") 562, Value.str ("names") 563, Value.str ("column") 564] }
noncomputable def b300 (P : Params) : Obj := { cls := Value.type "tuple", data := Data.seq #[] }
noncomputable def b301 : Obj := (mkT "is_frame" "is_frame" : Foo (fd (nS pb 29)))
noncomputable def b302 (P : Params) : Obj := { cls := Value.type "code", data := Data.fields #[Value.str ("is_frame") 559, Value.str ("is_frame") 560, Value.str ("/claim/cut.py") 561, Value.int 199 0, Value.int 1 0, Value.int 0 0, Value.int 0 0, Value.int 3 0, Value.ref 297, Value.bool true, Value.int 181 0, Value.ref 298, Value.none, Value.ref 299, Value.ref 300, Value.ref 301, Value.int 565 0, Value.int 199 0, Value.str ("/claim/cut.py") 566] }
noncomputable def b304 (P : Params) : Obj := { cls := Value.type "tuple", data := Data.seq #[] }
noncomputable def b305 (P : Params) : Obj := { cls := Value.none, data := Data.fields #[] }
noncomputable def b306 : Obj := (mkT "new_frame" "new_frame" : Foo (fd (nS pb 30)))
noncomputable def b307 (P : Params) : Obj := { cls := Value.type "code", data := Data.fields #[Value.str ("new_frame") 568, Value.str ("new_frame") 569, Value.str ("/claim/cut.py") 570, Value.int 209 0, Value.int 3 0, Value.int 0 0, Value.int 0 0, Value.int 3 0, Value.ref 304, Value.bool true, Value.int 181 0, Value.ref 305, Value.none, Value.none, Value.none, Value.ref 306, Value.int 571 0, Value.int 209 0, Value.str ("/claim/cut.py") 572] }
noncomputable def b309 (P : Params) : Obj := { cls := Value.type "tuple", data := Data.seq #[] }
noncomputable def b310 (P : Params) : Obj := { cls := Value.none, data := Data.fields #[] }
noncomputable def b311 (P : Params) : Obj := { cls := Value.type "tuple", data := Data.seq #[Value.str ("count") 577] }
noncomputable def b312 (P : Params) : Obj := { cls := Value.type "tuple", data := Data.seq #[] }
noncomputable def b313 : Obj := (mkT "plain_rows" "plain_rows" : Foo (fd (nS pb 31)))
noncomputable def b314 (P : Params) : Obj := { cls := Value.type "code", data := Data.fields #[Value.str ("plain_rows") 574, Value.str ("plain_rows") 575, Value.str ("/claim/cut.py") 576, Value.int 213 0, Value.int 1 0, Value.int 0 0, Value.int 0 0, Value.int 3 0, Value.ref 309, Value.bool true, Value.int 181 0, Value.ref 310, Value.none, Value.ref 311, Value.ref 312, Value.ref 313, Value.int 578 0, Value.int 213 0, Value.str ("/claim/cut.py") 579] }
noncomputable def b316 (P : Params) : Obj := { cls := Value.type "tuple", data := Data.seq #[] }
noncomputable def b317 (P : Params) : Obj := { cls := Value.none, data := Data.fields #[] }
noncomputable def b318 (P : Params) : Obj := { cls := Value.type "tuple", data := Data.seq #[Value.str ("df") 584] }
noncomputable def b319 (P : Params) : Obj := { cls := Value.type "tuple", data := Data.seq #[] }
noncomputable def b320 : Obj := (mkT "frame_rows" "frame_rows" : Foo (fd (nS pb 32)))
noncomputable def b321 (P : Params) : Obj := { cls := Value.type "code", data := Data.fields #[Value.str ("frame_rows") 581, Value.str ("frame_rows") 582, Value.str ("/claim/cut.py") 583, Value.int 215 0, Value.int 1 0, Value.int 0 0, Value.int 0 0, Value.int 3 0, Value.ref 316, Value.bool true, Value.int 181 0, Value.ref 317, Value.none, Value.ref 318, Value.ref 319, Value.ref 320, Value.int 585 0, Value.int 215 0, Value.str ("/claim/cut.py") 586] }
noncomputable def b323 (P : Params) : Obj := { cls := Value.type "tuple", data := Data.seq #[] }
noncomputable def b324 (P : Params) : Obj := { cls := Value.none, data := Data.fields #[] }
noncomputable def b325 : Obj := (mkT "column_names" "column_names" : Foo (fd (nS pb 33)))
noncomputable def b326 (P : Params) : Obj := { cls := Value.type "code", data := Data.fields #[Value.str ("column_names") 588, Value.str ("column_names") 589, Value.str ("/claim/cut.py") 590, Value.int 219 0, Value.int 1 0, Value.int 0 0, Value.int 0 0, Value.int 3 0, Value.ref 323, Value.bool true, Value.int 181 0, Value.ref 324, Value.none, Value.none, Value.none, Value.ref 325, Value.int 591 0, Value.int 219 0, Value.str ("/claim/cut.py") 592] }
noncomputable def b328 (P : Params) : Obj := { cls := Value.type "tuple", data := Data.seq #[] }
noncomputable def b329 (P : Params) : Obj := { cls := Value.none, data := Data.fields #[] }
noncomputable def b330 (P : Params) : Obj := { cls := Value.type "tuple", data := Data.seq #[Value.str ("column") 597, Value.str ("kept") 598, Value.str ("name") 599] }
noncomputable def b331 (P : Params) : Obj := { cls := Value.type "tuple", data := Data.seq #[] }
noncomputable def b332 : Obj := (mkT "kept_attrs" "kept_attrs" : Foo (fd (nS pb 34)))
noncomputable def b333 (P : Params) : Obj := { cls := Value.type "code", data := Data.fields #[Value.str ("kept_attrs") 594, Value.str ("kept_attrs") 595, Value.str ("/claim/cut.py") 596, Value.int 222 0, Value.int 1 0, Value.int 0 0, Value.int 0 0, Value.int 3 0, Value.ref 328, Value.bool true, Value.int 181 0, Value.ref 329, Value.none, Value.ref 330, Value.ref 331, Value.ref 332, Value.int 600 0, Value.int 222 0, Value.str ("/claim/cut.py") 601] }
noncomputable def b335 (P : Params) : Obj := { cls := Value.type "tuple", data := Data.seq #[] }
noncomputable def b336 (P : Params) : Obj := { cls := Value.none, data := Data.fields #[] }
noncomputable def b337 (P : Params) : Obj := { cls := Value.type "tuple", data := Data.seq #[Value.str ("kind") 606] }
noncomputable def b338 (P : Params) : Obj := { cls := Value.type "tuple", data := Data.seq #[] }
noncomputable def b339 : Obj := (mkT "lacking" "lacking" : Foo (fd (nS pb 35)))
noncomputable def b340 (P : Params) : Obj := { cls := Value.type "code", data := Data.fields #[Value.str ("lacking") 603, Value.str ("lacking") 604, Value.str ("/claim/cut.py") 605, Value.int 230 0, Value.int 1 0, Value.int 0 0, Value.int 0 0, Value.int 3 0, Value.ref 335, Value.bool true, Value.int 181 0, Value.ref 336, Value.none, Value.ref 337, Value.ref 338, Value.ref 339, Value.int 607 0, Value.int 230 0, Value.str ("/claim/cut.py") 608] }
noncomputable def b342 (P : Params) : Obj := { cls := Value.type "tuple", data := Data.seq #[] }
noncomputable def b343 (P : Params) : Obj := { cls := Value.none, data := Data.fields #[] }
noncomputable def b344 (P : Params) : Obj := { cls := Value.type "tuple", data := Data.seq #[Value.str ("column") 613, Value.str ("places") 614, Value.str ("items") 615, Value.str ("count") 616, Value.str ("place") 617] }
noncomputable def b345 (P : Params) : Obj := { cls := Value.type "tuple", data := Data.seq #[] }
noncomputable def b346 : Obj := (mkT "pick_items" "pick_items" : Foo (fd (nS pb 36)))
noncomputable def b347 (P : Params) : Obj := { cls := Value.type "code", data := Data.fields #[Value.str ("pick_items") 610, Value.str ("pick_items") 611, Value.str ("/claim/cut.py") 612, Value.int 234 0, Value.int 2 0, Value.int 0 0, Value.int 0 0, Value.int 3 0, Value.ref 342, Value.bool true, Value.int 181 0, Value.ref 343, Value.none, Value.ref 344, Value.ref 345, Value.ref 346, Value.int 618 0, Value.int 234 0, Value.str ("/claim/cut.py") 619] }
noncomputable def b349 (P : Params) : Obj := { cls := Value.type "tuple", data := Data.seq #[] }
noncomputable def b350 (P : Params) : Obj := { cls := Value.none, data := Data.fields #[] }
noncomputable def b351 (P : Params) : Obj := { cls := Value.type "tuple", data := Data.seq #[Value.str ("x") 626] }
noncomputable def b352 (P : Params) : Obj := { cls := Value.type "tuple", data := Data.seq #[] }
noncomputable def b353 : Obj := (mkT "is_finite" "is_finite" : Foo (fd (nS pb 38)))
noncomputable def b354 (P : Params) : Obj := { cls := Value.type "code", data := Data.fields #[Value.str ("is_finite") 623, Value.str ("is_finite") 624, Value.str ("/claim/cut.py") 625, Value.int 244 0, Value.int 1 0, Value.int 0 0, Value.int 0 0, Value.int 3 0, Value.ref 349, Value.bool true, Value.int 181 0, Value.ref 350, Value.none, Value.ref 351, Value.ref 352, Value.ref 353, Value.int 627 0, Value.int 244 0, Value.str ("/claim/cut.py") 628] }
noncomputable def b355 : Obj := (mkF "is_finite" "is_finite" (Value.none) "vectorcove.rational" 621 (Value.ref 354) : Foo (fd (nS pb 38)))
noncomputable def b356 (P : Params) : Obj := { cls := Value.type "tuple", data := Data.seq #[] }
noncomputable def b357 (P : Params) : Obj := { cls := Value.none, data := Data.fields #[] }
noncomputable def b358 (P : Params) : Obj := { cls := Value.type "tuple", data := Data.seq #[Value.str ("x") 633, Value.str ("found") 634] }
noncomputable def b359 (P : Params) : Obj := { cls := Value.type "tuple", data := Data.seq #[] }
noncomputable def b360 : Obj := (mkT "to_whole" "to_whole" : Foo (fd (nS pb 39)))
noncomputable def b361 (P : Params) : Obj := { cls := Value.type "code", data := Data.fields #[Value.str ("to_whole") 630, Value.str ("to_whole") 631, Value.str ("/claim/cut.py") 632, Value.int 246 0, Value.int 1 0, Value.int 0 0, Value.int 0 0, Value.int 3 0, Value.ref 356, Value.bool true, Value.int 181 0, Value.ref 357, Value.none, Value.ref 358, Value.ref 359, Value.ref 360, Value.int 635 0, Value.int 246 0, Value.str ("/claim/cut.py") 636] }
noncomputable def b362 : Obj := (mkF "to_whole" "to_whole" (Value.none) "vectorcove.rational" 621 (Value.ref 361) : Foo (fd (nS pb 39)))
noncomputable def b363 (P : Params) : Obj := { cls := Value.type "tuple", data := Data.seq #[] }
noncomputable def b364 (P : Params) : Obj := { cls := Value.none, data := Data.fields #[] }
noncomputable def b365 (P : Params) : Obj := { cls := Value.type "tuple", data := Data.seq #[Value.str ("ix") 643, Value.str ("found") 644, Value.str ("item") 645] }
noncomputable def b366 (P : Params) : Obj := { cls := Value.type "tuple", data := Data.seq #[] }
noncomputable def b367 : Obj := (mkT "whole_subscripts" "whole_subscripts" : Foo (fd (nS pb 41)))
noncomputable def b368 (P : Params) : Obj := { cls := Value.type "code", data := Data.fields #[Value.str ("whole_subscripts") 640, Value.str ("whole_subscripts") 641, Value.str ("/claim/cut.py") 642, Value.int 252 0, Value.int 1 0, Value.int 0 0, Value.int 0 0, Value.int 3 0, Value.ref 363, Value.bool true, Value.int 181 0, Value.ref 364, Value.none, Value.ref 365, Value.ref 366, Value.ref 367, Value.int 646 0, Value.int 252 0, Value.str ("/claim/cut.py") 647] }
noncomputable def b369 : Obj := (mkF "whole_subscripts" "whole_subscripts" (Value.none) "vectorcove.index" 638 (Value.ref 368) : Foo (fd (nS pb 41)))
noncomputable def b370 (P : Params) : Obj := { cls := Value.type "tuple", data := Data.seq #[] }
noncomputable def b371 (P : Params) : Obj := { cls := Value.none, data := Data.fields #[] }
noncomputable def b372 (P : Params) : Obj := { cls := Value.type "tuple", data := Data.seq #[Value.str ("items") 652, Value.str ("n") 653, Value.str ("count") 654, Value.str ("places") 655, Value.str ("i") 656, Value.str ("item") 657] }
noncomputable def b373 (P : Params) : Obj := { cls := Value.type "tuple", data := Data.seq #[] }
noncomputable def b374 : Obj := (mkT "logical_places" "logical_places" : Foo (fd (nS pb 42)))
noncomputable def b375 (P : Params) : Obj := { cls := Value.type "code", data := Data.fields #[Value.str ("logical_places") 649, Value.str ("logical_places") 650, Value.str ("/claim/cut.py") 651, Value.int 262 0, Value.int 2 0, Value.int 0 0, Value.int 0 0, Value.int 3 0, Value.ref 370, Value.bool true, Value.int 181 0, Value.ref 371, Value.none, Value.ref 372, Value.ref 373, Value.ref 374, Value.int 658 0, Value.int 262 0, Value.str ("/claim/cut.py") 659] }
noncomputable def b376 : Obj := (mkF "logical_places" "logical_places" (Value.none) "vectorcove.index" 638 (Value.ref 375) : Foo (fd (nS pb 42)))
noncomputable def b377 (P : Params) : Obj := { cls := Value.type "tuple", data := Data.seq #[] }
noncomputable def b378 (P : Params) : Obj := { cls := Value.none, data := Data.fields #[] }
noncomputable def b379 : Obj := (mkT "whole_places" "whole_places" : Foo (fd (nS pb 43)))
noncomputable def b380 (P : Params) : Obj := { cls := Value.type "code", data := Data.fields #[Value.str ("whole_places") 661, Value.str ("whole_places") 662, Value.str ("/claim/cut.py") 663, Value.int 274 0, Value.int 2 0, Value.int 0 0, Value.int 0 0, Value.int 3 0, Value.ref 377, Value.bool true, Value.int 181 0, Value.ref 378, Value.none, Value.none, Value.none, Value.ref 379, Value.int 664 0, Value.int 274 0, Value.str ("/claim/cut.py") 665] }
noncomputable def b381 : Obj := (mkF "whole_places" "whole_places" (Value.none) "vectorcove.index" 638 (Value.ref 380) : Foo (fd (nS pb 43)))
noncomputable def b382 (P : Params) : Obj := { cls := Value.type "tuple", data := Data.seq #[] }
noncomputable def b383 (P : Params) : Obj := { cls := Value.none, data := Data.fields #[] }
noncomputable def b384 (P : Params) : Obj := { cls := Value.type "tuple", data := Data.seq #[Value.str ("names") 670, Value.str ("table") 671, Value.str ("i") 672, Value.str ("name") 673] }
noncomputable def b385 (P : Params) : Obj := { cls := Value.type "tuple", data := Data.seq #[] }
noncomputable def b386 : Obj := (mkT "first_places" "first_places" : Foo (fd (nS pb 44)))
noncomputable def b387 (P : Params) : Obj := { cls := Value.type "code", data := Data.fields #[Value.str ("first_places") 667, Value.str ("first_places") 668, Value.str ("/claim/cut.py") 669, Value.int 293 0, Value.int 1 0, Value.int 0 0, Value.int 0 0, Value.int 3 0, Value.ref 382, Value.bool true, Value.int 181 0, Value.ref 383, Value.none, Value.ref 384, Value.ref 385, Value.ref 386, Value.int 674 0, Value.int 293 0, Value.str ("/claim/cut.py") 675] }
noncomputable def b389 (P : Params) : Obj := { cls := Value.type "tuple", data := Data.seq #[] }
noncomputable def b390 (P : Params) : Obj := { cls := Value.none, data := Data.fields #[] }
noncomputable def b391 (P : Params) : Obj := { cls := Value.type "tuple", data := Data.seq #[Value.str ("texts") 680, Value.str ("names") 681, Value.str ("table") 682, Value.str ("places") 683, Value.str ("item") 684] }
noncomputable def b392 (P : Params) : Obj := { cls := Value.type "tuple", data := Data.seq #[] }
noncomputable def b393 : Obj := (mkT "name_places" "name_places" : Foo (fd (nS pb 45)))
noncomputable def b394 (P : Params) : Obj := { cls := Value.type "code", data := Data.fields #[Value.str ("name_places") 677, Value.str ("name_places") 678, Value.str ("/claim/cut.py") 679, Value.int 301 0, Value.int 2 0, Value.int 0 0, Value.int 0 0, Value.int 3 0, Value.ref 389, Value.bool true, Value.int 181 0, Value.ref 390, Value.none, Value.ref 391, Value.ref 392, Value.ref 393, Value.int 685 0, Value.int 301 0, Value.str ("/claim/cut.py") 686] }
noncomputable def b395 : Obj := (mkF "name_places" "name_places" (Value.none) "vectorcove.index" 638 (Value.ref 394) : Foo (fd (nS pb 45)))
noncomputable def b396 (P : Params) : Obj := { cls := Value.type "tuple", data := Data.seq #[] }
noncomputable def b397 (P : Params) : Obj := { cls := Value.none, data := Data.fields #[] }
noncomputable def b398 (P : Params) : Obj := { cls := Value.type "tuple", data := Data.seq #[Value.str ("texts") 691, Value.str ("n") 692, Value.str ("names") 693, Value.str ("table") 694, Value.str ("places") 695, Value.str ("added") 696, Value.str ("item") 697, Value.str ("place") 698] }
noncomputable def b399 (P : Params) : Obj := { cls := Value.type "tuple", data := Data.seq #[] }
noncomputable def b400 : Obj := (mkT "extending_places" "extending_places" : Foo (fd (nS pb 46)))
noncomputable def b401 (P : Params) : Obj := { cls := Value.type "code", data := Data.fields #[Value.str ("extending_places") 688, Value.str ("extending_places") 689, Value.str ("/claim/cut.py") 690, Value.int 310 0, Value.int 3 0, Value.int 0 0, Value.int 0 0, Value.int 3 0, Value.ref 396, Value.bool true, Value.int 181 0, Value.ref 397, Value.none, Value.ref 398, Value.ref 399, Value.ref 400, Value.int 699 0, Value.int 310 0, Value.str ("/claim/cut.py") 700] }
noncomputable def b403 (P : Params) : Obj := { cls := Value.type "tuple", data := Data.seq #[] }
noncomputable def b404 (P : Params) : Obj := { cls := Value.none, data := Data.fields #[] }
noncomputable def b405 (P : Params) : Obj := { cls := Value.type "tuple", data := Data.seq #[Value.str ("ix") 705, Value.str ("n") 706, Value.str ("names") 707, Value.str ("extend") 708, Value.str ("kind") 709] }
noncomputable def b406 (P : Params) : Obj := { cls := Value.type "tuple", data := Data.seq #[] }
noncomputable def b407 : Obj := (mkT "positions" "positions" : Foo (fd (nS pb 47)))
noncomputable def b408 (P : Params) : Obj := { cls := Value.type "code", data := Data.fields #[Value.str ("positions") 702, Value.str ("positions") 703, Value.str ("/claim/cut.py") 704, Value.int 324 0, Value.int 4 0, Value.int 0 0, Value.int 0 0, Value.int 3 0, Value.ref 403, Value.bool true, Value.int 181 0, Value.ref 404, Value.none, Value.ref 405, Value.ref 406, Value.ref 407, Value.int 710 0, Value.int 324 0, Value.str ("/claim/cut.py") 711] }
noncomputable def b410 (P : Params) : Obj := { cls := Value.type "tuple", data := Data.seq #[] }
noncomputable def b411 (P : Params) : Obj := { cls := Value.none, data := Data.fields #[] }
noncomputable def b412 : Obj := (mkT "fitted_column" "fitted_column" : Foo (fd (nS pb 49)))
noncomputable def b413 (P : Params) : Obj := { cls := Value.type "code", data := Data.fields #[Value.str ("fitted_column") 715, Value.str ("fitted_column") 716, Value.str ("/claim/cut.py") 717, Value.int 340 0, Value.int 2 0, Value.int 0 0, Value.int 0 0, Value.int 3 0, Value.ref 410, Value.bool true, Value.int 181 0, Value.ref 411, Value.none, Value.none, Value.none, Value.ref 412, Value.int 718 0, Value.int 340 0, Value.str ("/claim/cut.py") 719] }
noncomputable def b415 (P : Params) : Obj := { cls := Value.type "tuple", data := Data.seq #[] }
noncomputable def b416 (P : Params) : Obj := { cls := Value.none, data := Data.fields #[] }
noncomputable def b417 (P : Params) : Obj := { cls := Value.type "tuple", data := Data.seq #[Value.str ("df") 724, Value.str ("ix") 725, Value.str ("names") 726, Value.str ("places") 727, Value.str ("added") 728, Value.str ("place") 729] }
noncomputable def b418 (P : Params) : Obj := { cls := Value.type "tuple", data := Data.seq #[] }
noncomputable def b419 : Obj := (mkT "place_of_column" "place_of_column" : Foo (fd (nS pb 50)))
noncomputable def b420 (P : Params) : Obj := { cls := Value.type "code", data := Data.fields #[Value.str ("place_of_column") 721, Value.str ("place_of_column") 722, Value.str ("/claim/cut.py") 723, Value.int 351 0, Value.int 2 0, Value.int 0 0, Value.int 0 0, Value.int 3 0, Value.ref 415, Value.bool true, Value.int 181 0, Value.ref 416, Value.none, Value.ref 417, Value.ref 418, Value.ref 419, Value.int 730 0, Value.int 351 0, Value.str ("/claim/cut.py") 731] }
noncomputable def b422 (P : Params) : Obj := { cls := Value.type "tuple", data := Data.seq #[] }
noncomputable def b423 (P : Params) : Obj := { cls := Value.none, data := Data.fields #[] }
noncomputable def b424 (P : Params) : Obj := { cls := Value.type "tuple", data := Data.seq #[Value.str ("df") 736, Value.str ("ix") 737, Value.str ("value") 738, Value.str ("place") 739, Value.str ("name") 740, Value.str ("names") 741, Value.str ("columns") 742, Value.str ("labels") 743, Value.str ("rows") 744, Value.str ("column") 745] }
noncomputable def b425 (P : Params) : Obj := { cls := Value.type "tuple", data := Data.seq #[] }
noncomputable def b426 : Obj := (mkT "assign_column" "assign_column" : Foo (fd (nS pb 51)))
noncomputable def b427 (P : Params) : Obj := { cls := Value.type "code", data := Data.fields #[Value.str ("assign_column") 733, Value.str ("assign_column") 734, Value.str ("/claim/cut.py") 735, Value.int 362 0, Value.int 3 0, Value.int 0 0, Value.int 0 0, Value.int 3 0, Value.ref 422, Value.bool true, Value.int 181 0, Value.ref 423, Value.none, Value.ref 424, Value.ref 425, Value.ref 426, Value.int 746 0, Value.int 362 0, Value.str ("/claim/cut.py") 747] }
noncomputable def b429 (P : Params) : Obj := { cls := Value.type "tuple", data := Data.seq #[] }
noncomputable def b430 (P : Params) : Obj := { cls := Value.none, data := Data.fields #[] }
noncomputable def b431 (P : Params) : Obj := { cls := Value.type "tuple", data := Data.seq #[Value.str ("args") 754] }
noncomputable def b432 (P : Params) : Obj := { cls := Value.type "tuple", data := Data.seq #[] }
noncomputable def b433 : Obj := (mkT "first_frame" "first_frame" : Foo (fd (nS pb 53)))
noncomputable def b434 (P : Params) : Obj := { cls := Value.type "code", data := Data.fields #[Value.str ("first_frame") 751, Value.str ("first_frame") 752, Value.str ("/claim/cut.py") 753, Value.int 383 0, Value.int 1 0, Value.int 0 0, Value.int 0 0, Value.int 3 0, Value.ref 429, Value.bool true, Value.int 181 0, Value.ref 430, Value.none, Value.ref 431, Value.ref 432, Value.ref 433, Value.int 755 0, Value.int 383 0, Value.str ("/claim/cut.py") 756] }
noncomputable def b436 (P : Params) : Obj := { cls := Value.type "tuple", data := Data.seq #[] }
noncomputable def b437 (P : Params) : Obj := { cls := Value.none, data := Data.fields #[] }
noncomputable def b438 (P : Params) : Obj := { cls := Value.type "tuple", data := Data.seq #[Value.str ("interp") 761, Value.str ("args") 762, Value.str ("env") 763, Value.str ("df") 764, Value.str ("name") 765, Value.str ("value") 766] }
noncomputable def b439 (P : Params) : Obj := { cls := Value.type "tuple", data := Data.seq #[] }
noncomputable def b440 : Obj := (mkT "b_set_dollar" "b_set_dollar" : Foo (fd (nS pb 54)))
noncomputable def b441 (P : Params) : Obj := { cls := Value.type "code", data := Data.fields #[Value.str ("b_set_dollar") 758, Value.str ("b_set_dollar") 759, Value.str ("/claim/cut.py") 760, Value.int 389 0, Value.int 3 0, Value.int 0 0, Value.int 0 0, Value.int 3 0, Value.ref 436, Value.bool true, Value.int 181 0, Value.ref 437, Value.none, Value.ref 438, Value.ref 439, Value.ref 440, Value.int 767 0, Value.int 389 0, Value.str ("/claim/cut.py") 768] }
noncomputable def b443 (P : Params) : Obj := { cls := Value.type "tuple", data := Data.seq #[] }
noncomputable def b444 (P : Params) : Obj := { cls := Value.none, data := Data.fields #[] }
noncomputable def b445 (P : Params) : Obj := { cls := Value.type "tuple", data := Data.seq #[Value.str ("well") 775, Value.str ("limit") 776, Value.str ("digit") 777] }
noncomputable def b446 (P : Params) : Obj := { cls := Value.type "tuple", data := Data.seq #[] }
noncomputable def b447 : Obj := (mkT "_law_dip" "_law_dip" : Foo (fd (nS pb 56)))
noncomputable def b448 (P : Params) : Obj := { cls := Value.type "code", data := Data.fields #[Value.str ("_law_dip") 772, Value.str ("_law_dip") 773, Value.str ("/claim/cut.py") 774, Value.int 398 0, Value.int 2 0, Value.int 0 0, Value.int 0 0, Value.int 3 0, Value.ref 443, Value.bool true, Value.int 181 0, Value.ref 444, Value.none, Value.ref 445, Value.ref 446, Value.ref 447, Value.int 778 0, Value.int 398 0, Value.str ("/claim/cut.py") 779] }
noncomputable def b450 (P : Params) : Obj := { cls := Value.type "tuple", data := Data.seq #[] }
noncomputable def b451 (P : Params) : Obj := { cls := Value.none, data := Data.fields #[] }
noncomputable def b452 : Obj := (mkT "_law_fresh" "_law_fresh" : Foo (fd (nS pb 57)))
noncomputable def b453 (P : Params) : Obj := { cls := Value.type "code", data := Data.fields #[Value.str ("_law_fresh") 781, Value.str ("_law_fresh") 782, Value.str ("/claim/cut.py") 783, Value.int 406 0, Value.int 3 0, Value.int 0 0, Value.int 0 0, Value.int 3 0, Value.ref 450, Value.bool true, Value.int 181 0, Value.ref 451, Value.none, Value.none, Value.none, Value.ref 452, Value.int 784 0, Value.int 406 0, Value.str ("/claim/cut.py") 785] }
noncomputable def b455 (P : Params) : Obj := { cls := Value.type "tuple", data := Data.seq #[] }
noncomputable def b456 (P : Params) : Obj := { cls := Value.none, data := Data.fields #[] }
noncomputable def b457 : Obj := (mkT "_law_told" "_law_told" : Foo (fd (nS pb 58)))
noncomputable def b458 (P : Params) : Obj := { cls := Value.type "code", data := Data.fields #[Value.str ("_law_told") 787, Value.str ("_law_told") 788, Value.str ("/claim/cut.py") 789, Value.int 420 0, Value.int 1 0, Value.int 0 0, Value.int 0 0, Value.int 3 0, Value.ref 455, Value.bool true, Value.int 181 0, Value.ref 456, Value.none, Value.none, Value.none, Value.ref 457, Value.int 790 0, Value.int 420 0, Value.str ("/claim/cut.py") 791] }
noncomputable def b460 (P : Params) : Obj := { cls := Value.type "tuple", data := Data.seq #[] }
noncomputable def b461 (P : Params) : Obj := { cls := Value.none, data := Data.fields #[] }
noncomputable def b462 : Obj := (mkT "_law_sheet" "_law_sheet" : Foo (fd (nS pb 59)))
noncomputable def b463 (P : Params) : Obj := { cls := Value.type "code", data := Data.fields #[Value.str ("_law_sheet") 793, Value.str ("_law_sheet") 794, Value.str ("/claim/cut.py") 795, Value.int 426 0, Value.int 2 0, Value.int 0 0, Value.int 0 0, Value.int 3 0, Value.ref 460, Value.bool true, Value.int 181 0, Value.ref 461, Value.none, Value.none, Value.none, Value.ref 462, Value.int 796 0, Value.int 426 0, Value.str ("/claim/cut.py") 797] }
noncomputable def b465 (P : Params) : Obj := { cls := Value.type "tuple", data := Data.seq #[] }
noncomputable def b466 (P : Params) : Obj := { cls := Value.none, data := Data.fields #[] }
noncomputable def b467 : Obj := (mkT "law" "law" : Foo (fd (nS pb 60)))
noncomputable def b468 (P : Params) : Obj := { cls := Value.type "code", data := Data.fields #[Value.str ("law") 799, Value.str ("law") 800, Value.str ("/claim/cut.py") 801, Value.int 430 0, Value.int 1 0, Value.int 0 0, Value.int 0 0, Value.int 3 0, Value.ref 465, Value.bool true, Value.int 181 0, Value.ref 466, Value.none, Value.none, Value.none, Value.ref 467, Value.int 802 0, Value.int 430 0, Value.str ("/claim/cut.py") 803] }
noncomputable def b469 : Obj := (mkF "law" "law" (Value.none) "law_sm0097_01" 770 (Value.ref 468) : Foo (fd (nS pb 60)))
noncomputable def HL (P : Params) : List Obj := [boot_o_0 P, boot_o_1 P, b2 P, b3 P, boot_o_4 P, boot_o_5 P, boot_o_6 P, boot_o_7 P, boot_o_8 P, boot_o_9 P, boot_o_10 P, b11 P, b12 P, b13 P, b14 P, b15 P, b16 P, b17 P, b18 P, b19, b20 P, b21, b22 P, b23 P, b24 P, b25 P, b26 P, b27 P, b28 P, b29 P, b30 P, b31 P, b32 P, b33 P, b34 P, b35 P, b36 P, b37 P, b38 P, b39 P, b40 P, b41 P, b42 P, b43 P, b44 P, b45 P, b46, b47 P, o48, b49 P, b50 P, b51 P, b52 P, b53 P, b54 P, b55 P, b56 P, b57 P, b58 P, b59 P, b60 P, b61 P, b62 P, b63 P, b64 P, b65, b66 P, o67, b68 P, b69 P, b70 P, b71 P, b72 P, b73 P, b74 P, b75 P, b76 P, b77 P, b78 P, b79 P, b80 P, b81 P, b82 P, b83 P, b84 P, b85 P, b86 P, b87, b88 P, o89, b90 P, b91 P, b92 P, b93 P, b94, b95 P, b96, b97 P, b98 P, b99 P, b100 P, b101 P, b102 P, b103 P, b104 P, b105 P, b106 P, b107 P, b108 P, b109 P, b110 P, b111 P, b112 P, b113 P, b114 P, b115, b116 P, o117, b118 P, b119 P, b120 P, b121 P, b122 P, b123 P, b124 P, b125 P, b126 P, b127 P, b128 P, b129, b130 P, o131, b132 P, b133 P, b134 P, b135 P, b136, b137 P, o138, b139 P, b140 P, b141 P, b142 P, b143, b144 P, o145, b146 P, b147 P, b148 P, b149 P, b150, b151 P, o152, b153 P, b154 P, b155 P, b156 P, b157, b158 P, o159, b160 P, b161 P, b162 P, b163 P, b164 P, b165 P, b166 P, b167 P, b168 P, b169 P, b170 P, b171, b172 P, o173, b174 P, b175 P, b176 P, b177 P, b178, b179 P, o180, b181 P, b182 P, b183 P, b184 P, b185, b186 P, o187, b188 P, b189 P, b190 P, b191 P, b192, b193 P, o194, b195 P, b196 P, b197 P, b198 P, b199, b200 P, o201, b202 P, b203 P, b204 P, b205 P, b206, b207 P, o208, b209 P, b210 P, b211, b212 P, o213, b214 P, b215 P, b216 P, b217 P, b218 P, b219 P, b220 P, b221 P, b222 P, b223 P, b224 P, b225, b226 P, b227, b228 P, b229 P, b230 P, b231 P, b232, b233 P, b234, b235 P, b236 P, b237 P, b238 P, b239, b240 P, o241, b242 P, b243 P, b244, b245 P, b246, b247 P, b248 P, b249 P, b250, b251 P, o252, b253 P, b254 P, b255 P, b256 P, b257, b258 P, o259, b260 P, b261 P, b262 P, b263, b264 P, o265, b266 P, b267 P, b268 P, b269 P, b270, b271 P, o272, b273 P, b274 P, b275, b276 P, o277, b278 P, b279 P, b280 P, b281 P, b282, b283 P, o284, b285 P, b286 P, b287, b288 P, o289, b290 P, b291 P, b292 P, b293 P, b294, b295 P, o296, b297 P, b298 P, b299 P, b300 P, b301, b302 P, o303, b304 P, b305 P, b306, b307 P, o308, b309 P, b310 P, b311 P, b312 P, b313, b314 P, o315, b316 P, b317 P, b318 P, b319 P, b320, b321 P, o322, b323 P, b324 P, b325, b326 P, o327, b328 P, b329 P, b330 P, b331 P, b332, b333 P, o334, b335 P, b336 P, b337 P, b338 P, b339, b340 P, o341, b342 P, b343 P, b344 P, b345 P, b346, b347 P, o348, b349 P, b350 P, b351 P, b352 P, b353, b354 P, b355, b356 P, b357 P, b358 P, b359 P, b360, b361 P, b362, b363 P, b364 P, b365 P, b366 P, b367, b368 P, b369, b370 P, b371 P, b372 P, b373 P, b374, b375 P, b376, b377 P, b378 P, b379, b380 P, b381, b382 P, b383 P, b384 P, b385 P, b386, b387 P, o388, b389 P, b390 P, b391 P, b392 P, b393, b394 P, b395, b396 P, b397 P, b398 P, b399 P, b400, b401 P, o402, b403 P, b404 P, b405 P, b406 P, b407, b408 P, o409, b410 P, b411 P, b412, b413 P, o414, b415 P, b416 P, b417 P, b418 P, b419, b420 P, o421, b422 P, b423 P, b424 P, b425 P, b426, b427 P, o428, b429 P, b430 P, b431 P, b432 P, b433, b434 P, o435, b436 P, b437 P, b438 P, b439 P, b440, b441 P, o442, b443 P, b444 P, b445 P, b446 P, b447, b448 P, o449, b450 P, b451 P, b452, b453 P, o454, b455 P, b456 P, b457, b458 P, o459, b460 P, b461 P, b462, b463 P, o464, b465 P, b466 P, b467, b468 P, b469]
noncomputable def HH (P : Params) : Heap := ⟨⟨HL P⟩, { }⟩
noncomputable def HS (n : Nat) (r : List (Nat × Obj)) (P : Params) : Heap := ⟨⟨r.foldl (fun l x => l.set x.1 x.2) ((HL P).take n)⟩, { }⟩
noncomputable def HA (P : Params) : Heap := HS 15 [(2, boot_o_2 P), (3, boot_o_3 P), (12, { cls := Value.none, data := Data.fields #[] })] P
noncomputable def H0 (P : Params) : Heap := HS 104 [(3, { cls := Value.type "dict", data := Data.dict #[{ hash := PyData.keyHash P (Str.ofString "__name__"), key := Value.str (Str.ofString "__name__") 165, val := Value.str (Str.ofString "vectorcove.values") 241 }, { hash := PyData.keyHash P (Str.ofString "__doc__"), key := Value.str (Str.ofString "__doc__") 166, val := Value.none }, { hash := PyData.keyHash P (Str.ofString "__package__"), key := Value.str (Str.ofString "__package__") 167, val := Value.none }, { hash := PyData.keyHash P (Str.ofString "__loader__"), key := Value.str (Str.ofString "__loader__") 168, val := Value.builtin "__main__.__loader__#opaque" }, { hash := PyData.keyHash P (Str.ofString "__spec__"), key := Value.str (Str.ofString "__spec__") 169, val := Value.none }, { hash := PyData.keyHash P (Str.ofString "__annotations__"), key := Value.str (Str.ofString "__annotations__") 170, val := Value.ref 6 }, { hash := PyData.keyHash P (Str.ofString "__builtins__"), key := Value.str (Str.ofString "__builtins__") 171, val := Value.ref 4 }, { hash := PyData.keyHash P (Str.ofString "__file__"), key := Value.str (Str.ofString "__file__") 173, val := Value.str (Str.ofString "/claim/cut.py") 172 }, { hash := PyData.keyHash P (Str.ofString "__cached__"), key := Value.str (Str.ofString "__cached__") 174, val := Value.none }, { hash := PyData.keyHash P (Str.ofString "_wall"), key := Value.str (Str.ofString "_wall") 193, val := Value.ref 21 }, { hash := PyData.keyHash P (Str.ofString "CoveError"), key := Value.str (Str.ofString "CoveError") 215, val := Value.ref 31 }, { hash := PyData.keyHash P (Str.ofString "Refusal"), key := Value.str (Str.ofString "Refusal") 240, val := Value.ref 51 }, { hash := PyData.keyHash P (Str.ofString "Null"), key := Value.str (Str.ofString "Null") 271, val := Value.ref 70 }, { hash := PyData.keyHash P (Str.ofString "Vector"), key := Value.str (Str.ofString "Vector") 313, val := Value.ref 99 }] 14 }), (12, { cls := Value.none, data := Data.fields #[Value.int 1 0, Value.int 0 0, Value.ref 20, Value.int 5 0, Value.int 0 0, Value.ref 27, Value.int 7 0, Value.int 0 0, Value.ref 40, Value.int 12 0, Value.int 0 0, Value.ref 59, Value.int 17 0, Value.int 0 0, Value.ref 80] })] P
noncomputable def H1 (P : Params) : Heap := HS 221 [(3, { cls := Value.type "dict", data := Data.dict #[{ hash := PyData.keyHash P (Str.ofString "__name__"), key := Value.str (Str.ofString "__name__") 165, val := Value.str (Str.ofString "vectorcove.callargs") 381 }, { hash := PyData.keyHash P (Str.ofString "__doc__"), key := Value.str (Str.ofString "__doc__") 166, val := Value.none }, { hash := PyData.keyHash P (Str.ofString "__package__"), key := Value.str (Str.ofString "__package__") 167, val := Value.none }, { hash := PyData.keyHash P (Str.ofString "__loader__"), key := Value.str (Str.ofString "__loader__") 168, val := Value.builtin "__main__.__loader__#opaque" }, { hash := PyData.keyHash P (Str.ofString "__spec__"), key := Value.str (Str.ofString "__spec__") 169, val := Value.none }, { hash := PyData.keyHash P (Str.ofString "__annotations__"), key := Value.str (Str.ofString "__annotations__") 170, val := Value.ref 6 }, { hash := PyData.keyHash P (Str.ofString "__builtins__"), key := Value.str (Str.ofString "__builtins__") 171, val := Value.ref 4 }, { hash := PyData.keyHash P (Str.ofString "__file__"), key := Value.str (Str.ofString "__file__") 173, val := Value.str (Str.ofString "/claim/cut.py") 172 }, { hash := PyData.keyHash P (Str.ofString "__cached__"), key := Value.str (Str.ofString "__cached__") 174, val := Value.none }, { hash := PyData.keyHash P (Str.ofString "_wall"), key := Value.str (Str.ofString "_wall") 193, val := Value.ref 21 }, { hash := PyData.keyHash P (Str.ofString "CoveError"), key := Value.str (Str.ofString "CoveError") 215, val := Value.ref 31 }, { hash := PyData.keyHash P (Str.ofString "Refusal"), key := Value.str (Str.ofString "Refusal") 240, val := Value.ref 51 }, { hash := PyData.keyHash P (Str.ofString "Null"), key := Value.str (Str.ofString "Null") 271, val := Value.ref 70 }, { hash := PyData.keyHash P (Str.ofString "Vector"), key := Value.str (Str.ofString "Vector") 313, val := Value.ref 99 }, { hash := PyData.keyHash P (Str.ofString "Symbol"), key := Value.str (Str.ofString "Symbol") 344, val := Value.ref 120 }, { hash := PyData.keyHash P (Str.ofString "integer"), key := Value.str (Str.ofString "integer") 351, val := Value.ref 131 }, { hash := PyData.keyHash P (Str.ofString "character"), key := Value.str (Str.ofString "character") 358, val := Value.ref 138 }, { hash := PyData.keyHash P (Str.ofString "length"), key := Value.str (Str.ofString "length") 366, val := Value.ref 145 }, { hash := PyData.keyHash P (Str.ofString "is_vector"), key := Value.str (Str.ofString "is_vector") 373, val := Value.ref 152 }, { hash := PyData.keyHash P (Str.ofString "share"), key := Value.str (Str.ofString "share") 380, val := Value.ref 159 }, { hash := PyData.keyHash P (Str.ofString "Matching"), key := Value.str (Str.ofString "Matching") 465, val := Value.ref 216 }] 21 }), (12, { cls := Value.none, data := Data.fields #[Value.int 1 0, Value.int 0 0, Value.ref 20, Value.int 5 0, Value.int 0 0, Value.ref 27, Value.int 7 0, Value.int 0 0, Value.ref 40, Value.int 12 0, Value.int 0 0, Value.ref 59, Value.int 17 0, Value.int 0 0, Value.ref 80, Value.int 28 0, Value.int 0 0, Value.ref 109, Value.int 34 0, Value.int 0 0, Value.ref 130, Value.int 36 0, Value.int 0 0, Value.ref 137, Value.int 38 0, Value.int 0 0, Value.ref 144, Value.int 49 0, Value.int 0 0, Value.ref 151, Value.int 51 0, Value.int 0 0, Value.ref 158, Value.int 56 0, Value.int 0 0, Value.ref 165] })] P
noncomputable def H2 (P : Params) : Heap := HS 349 [(3, { cls := Value.type "dict", data := Data.dict #[{ hash := PyData.keyHash P (Str.ofString "__name__"), key := Value.str (Str.ofString "__name__") 165, val := Value.str (Str.ofString "vectorcove.frames") 557 }, { hash := PyData.keyHash P (Str.ofString "__doc__"), key := Value.str (Str.ofString "__doc__") 166, val := Value.none }, { hash := PyData.keyHash P (Str.ofString "__package__"), key := Value.str (Str.ofString "__package__") 167, val := Value.none }, { hash := PyData.keyHash P (Str.ofString "__loader__"), key := Value.str (Str.ofString "__loader__") 168, val := Value.builtin "__main__.__loader__#opaque" }, { hash := PyData.keyHash P (Str.ofString "__spec__"), key := Value.str (Str.ofString "__spec__") 169, val := Value.none }, { hash := PyData.keyHash P (Str.ofString "__annotations__"), key := Value.str (Str.ofString "__annotations__") 170, val := Value.ref 6 }, { hash := PyData.keyHash P (Str.ofString "__builtins__"), key := Value.str (Str.ofString "__builtins__") 171, val := Value.ref 4 }, { hash := PyData.keyHash P (Str.ofString "__file__"), key := Value.str (Str.ofString "__file__") 173, val := Value.str (Str.ofString "/claim/cut.py") 172 }, { hash := PyData.keyHash P (Str.ofString "__cached__"), key := Value.str (Str.ofString "__cached__") 174, val := Value.none }, { hash := PyData.keyHash P (Str.ofString "_wall"), key := Value.str (Str.ofString "_wall") 193, val := Value.ref 21 }, { hash := PyData.keyHash P (Str.ofString "CoveError"), key := Value.str (Str.ofString "CoveError") 215, val := Value.ref 31 }, { hash := PyData.keyHash P (Str.ofString "Refusal"), key := Value.str (Str.ofString "Refusal") 240, val := Value.ref 51 }, { hash := PyData.keyHash P (Str.ofString "Null"), key := Value.str (Str.ofString "Null") 271, val := Value.ref 70 }, { hash := PyData.keyHash P (Str.ofString "Vector"), key := Value.str (Str.ofString "Vector") 313, val := Value.ref 99 }, { hash := PyData.keyHash P (Str.ofString "Symbol"), key := Value.str (Str.ofString "Symbol") 344, val := Value.ref 120 }, { hash := PyData.keyHash P (Str.ofString "integer"), key := Value.str (Str.ofString "integer") 351, val := Value.ref 131 }, { hash := PyData.keyHash P (Str.ofString "character"), key := Value.str (Str.ofString "character") 358, val := Value.ref 138 }, { hash := PyData.keyHash P (Str.ofString "length"), key := Value.str (Str.ofString "length") 366, val := Value.ref 145 }, { hash := PyData.keyHash P (Str.ofString "is_vector"), key := Value.str (Str.ofString "is_vector") 373, val := Value.ref 152 }, { hash := PyData.keyHash P (Str.ofString "share"), key := Value.str (Str.ofString "share") 380, val := Value.ref 159 }, { hash := PyData.keyHash P (Str.ofString "Matching"), key := Value.str (Str.ofString "Matching") 465, val := Value.ref 216 }, { hash := PyData.keyHash P (Str.ofString "doubled_text"), key := Value.str (Str.ofString "doubled_text") 472, val := Value.ref 227 }, { hash := PyData.keyHash P (Str.ofString "argument_text"), key := Value.str (Str.ofString "argument_text") 484, val := Value.ref 234 }, { hash := PyData.keyHash P (Str.ofString "plain_text"), key := Value.str (Str.ofString "plain_text") 492, val := Value.ref 241 }, { hash := PyData.keyHash P (Str.ofString "unused_text"), key := Value.str (Str.ofString "unused_text") 498, val := Value.ref 246 }, { hash := PyData.keyHash P (Str.ofString "match_names"), key := Value.str (Str.ofString "match_names") 504, val := Value.ref 252 }, { hash := PyData.keyHash P (Str.ofString "needed"), key := Value.str (Str.ofString "needed") 512, val := Value.ref 259 }, { hash := PyData.keyHash P (Str.ofString "take"), key := Value.str (Str.ofString "take") 518, val := Value.ref 265 }, { hash := PyData.keyHash P (Str.ofString "get_attr"), key := Value.str (Str.ofString "get_attr") 528, val := Value.ref 272 }, { hash := PyData.keyHash P (Str.ofString "names_of"), key := Value.str (Str.ofString "names_of") 534, val := Value.ref 277 }, { hash := PyData.keyHash P (Str.ofString "dim_of"), key := Value.str (Str.ofString "dim_of") 542, val := Value.ref 284 }, { hash := PyData.keyHash P (Str.ofString "dimnames_of"), key := Value.str (Str.ofString "dimnames_of") 548, val := Value.ref 289 }, { hash := PyData.keyHash P (Str.ofString "class_attr"), key := Value.str (Str.ofString "class_attr") 556, val := Value.ref 296 }, { hash := PyData.keyHash P (Str.ofString "is_frame"), key := Value.str (Str.ofString "is_frame") 567, val := Value.ref 303 }, { hash := PyData.keyHash P (Str.ofString "new_frame"), key := Value.str (Str.ofString "new_frame") 573, val := Value.ref 308 }, { hash := PyData.keyHash P (Str.ofString "plain_rows"), key := Value.str (Str.ofString "plain_rows") 580, val := Value.ref 315 }, { hash := PyData.keyHash P (Str.ofString "frame_rows"), key := Value.str (Str.ofString "frame_rows") 587, val := Value.ref 322 }, { hash := PyData.keyHash P (Str.ofString "column_names"), key := Value.str (Str.ofString "column_names") 593, val := Value.ref 327 }, { hash := PyData.keyHash P (Str.ofString "kept_attrs"), key := Value.str (Str.ofString "kept_attrs") 602, val := Value.ref 334 }, { hash := PyData.keyHash P (Str.ofString "lacking"), key := Value.str (Str.ofString "lacking") 609, val := Value.ref 341 }, { hash := PyData.keyHash P (Str.ofString "pick_items"), key := Value.str (Str.ofString "pick_items") 620, val := Value.ref 348 }] 41 }), (12, { cls := Value.none, data := Data.fields #[Value.int 1 0, Value.int 0 0, Value.ref 20, Value.int 5 0, Value.int 0 0, Value.ref 27, Value.int 7 0, Value.int 0 0, Value.ref 40, Value.int 12 0, Value.int 0 0, Value.ref 59, Value.int 17 0, Value.int 0 0, Value.ref 80, Value.int 28 0, Value.int 0 0, Value.ref 109, Value.int 34 0, Value.int 0 0, Value.ref 130, Value.int 36 0, Value.int 0 0, Value.ref 137, Value.int 38 0, Value.int 0 0, Value.ref 144, Value.int 49 0, Value.int 0 0, Value.ref 151, Value.int 51 0, Value.int 0 0, Value.ref 158, Value.int 56 0, Value.int 0 0, Value.ref 165, Value.int 109 0, Value.int 0 0, Value.ref 226, Value.int 111 0, Value.int 0 0, Value.ref 233, Value.int 117 0, Value.int 0 0, Value.ref 240, Value.int 132 0, Value.int 0 0, Value.ref 245, Value.int 138 0, Value.int 0 0, Value.ref 251, Value.int 147 0, Value.int 0 0, Value.ref 258, Value.int 151 0, Value.int 0 0, Value.ref 264, Value.int 163 0, Value.int 0 0, Value.ref 271, Value.int 167 0, Value.int 0 0, Value.ref 276, Value.int 183 0, Value.int 0 0, Value.ref 283, Value.int 188 0, Value.int 0 0, Value.ref 288, Value.int 193 0, Value.int 0 0, Value.ref 295, Value.int 199 0, Value.int 0 0, Value.ref 302, Value.int 209 0, Value.int 0 0, Value.ref 307, Value.int 213 0, Value.int 0 0, Value.ref 314, Value.int 215 0, Value.int 0 0, Value.ref 321, Value.int 219 0, Value.int 0 0, Value.ref 326, Value.int 222 0, Value.int 0 0, Value.ref 333, Value.int 230 0, Value.int 0 0, Value.ref 340, Value.int 234 0, Value.int 0 0, Value.ref 347] })] P
noncomputable def H3 (P : Params) : Heap := HS 470 [] P
noncomputable def ev : Env := { scope := pw.main.scope, locals := mainNs, globals := mainNs, cells := [], code := .ref 13, frame := some 14 }
noncomputable abbrev bE : List Stmt := behindTheImports pw
noncomputable abbrev cE : Code := .body bE ev
noncomputable abbrev q0 : Pos := ⟨0, 0, 0, 0⟩
noncomputable def sl0 : List Stmt := (bE.drop 0).take 7
noncomputable def sl1 : List Stmt := (bE.drop 7).take 8
noncomputable def sl2 : List Stmt := (bE.drop 15).take 22
noncomputable def sl3 : List Stmt := (bE.drop 37).take 24
theorem sl_app : bE = sl0 ++ (sl1 ++ (sl2 ++ (sl3 ++ []))) := by kernel_rfl
theorem r_pre (w : World) (os : OsState) : topGo treeTable pw w 11 (some (.ref 6)) 12 ⟨boot_heap w.params, Array.mk [], boot_drawn, boot_toks, os⟩ (topStub pw) = some (⟨HA w.params, Array.mk [], { }, 187, os⟩, ⟨denote treeTable cE, cE, q0, [topFrame q0]⟩) := by kernel_rfl
theorem r_block (w : World) (os : OsState) : segRun treeTable pw w 11 (some (.ref 6)) 1 1 ⟨HA w.params, Array.mk [], { }, 187, os⟩ (blockOf bE ev cE q0 [topFrame q0]) = some (.next, ⟨HA w.params, Array.mk [], { }, 187, os⟩, cE, q0) := by kernel_rfl
theorem r_g0 (w : World) (os : OsState) : segRun treeTable pw w 11 (some (.ref 6)) 1 971 ⟨HA w.params, Array.mk [], { }, 187, os⟩ (piecesOf sl0 ev cE q0 [topFrame q0]) = some (.next, ⟨H0 w.params, Array.mk [], { }, 314, os⟩, cE, ({ line := 17, col := 0, endLine := 27, endCol := 16 } : Pos)) := by
  rw [PySem.W.Fast.te14374325043358763698, PySem.W.Fast.te14364793385576792824]
  kernel_rfl
theorem r_g1 (w : World) (os : OsState) : segRun treeTable pw w 11 (some (.ref 6)) 1 798 ⟨H0 w.params, Array.mk [], { }, 314, os⟩ (piecesOf sl1 ev cE ({ line := 17, col := 0, endLine := 27, endCol := 16 } : Pos) [topFrame q0]) = some (.next, ⟨H1 w.params, Array.mk [], { }, 466, os⟩, cE, ({ line := 56, col := 0, endLine := 108, endCol := 82 } : Pos)) := by
  rw [PySem.W.Fast.te14374325043358763698, PySem.W.Fast.te14364793385576792824]
  kernel_rfl
theorem r_g2 (w : World) (os : OsState) : segRun treeTable pw w 11 (some (.ref 6)) 1 598 ⟨H1 w.params, Array.mk [], { }, 466, os⟩ (piecesOf sl2 ev cE ({ line := 56, col := 0, endLine := 108, endCol := 82 } : Pos) [topFrame q0]) = some (.next, ⟨H2 w.params, Array.mk [], { }, 621, os⟩, cE, ({ line := 234, col := 0, endLine := 242, endCol := 57 } : Pos)) := by
  rw [PySem.W.Fast.te14374325043358763698, PySem.W.Fast.te14364793385576792824]
  kernel_rfl
theorem r_g3 (w : World) (os : OsState) : segRun treeTable pw w 11 (some (.ref 6)) 1 626 ⟨H2 w.params, Array.mk [], { }, 621, os⟩ (piecesOf sl3 ev cE ({ line := 234, col := 0, endLine := 242, endCol := 57 } : Pos) [topFrame q0]) = some (.next, ⟨H3 w.params, Array.mk [], { }, 805, os⟩, cE, ({ line := 430, col := 0, endLine := 487, endCol := 15 } : Pos)) := by
  rw [PySem.W.Fast.te14374325043358763698, PySem.W.Fast.te14364793385576792824]
  kernel_rfl
theorem r_fin (w : World) (os : OsState) : topRun treeTable pw w 11 (some (.ref 6)) 2 ⟨H3 w.params, Array.mk [], { }, 805, os⟩ ⟨doneF .next, cE, ({ line := 430, col := 0, endLine := 487, endCol := 15 } : Pos), [topFrame q0]⟩ = some ⟨HH w.params, Array.mk [], { }, 805, os⟩ := by kernel_rfl
theorem run_top (w : World) (os : OsState) : topRun treeTable pw w 11 (some (.ref 6)) (12 + (1 + (971 + (798 + (598 + (626 + 2)))))) ⟨boot_heap w.params, Array.mk [], boot_drawn, boot_toks, os⟩ (topStub pw) = some ⟨HH w.params, Array.mk [], { }, 805, os⟩ := by
  refine go_top (r_pre w os) (piece_block (r_block w os) ?_)
  rw [sl_app]
  exact piece_app (r_g0 w os) (piece_app (r_g1 w os) (piece_app (r_g2 w os) (piece_app (r_g3 w os) (piece_nil (r_fin w os)))))
noncomputable abbrev XT : Shared → Bool := fun s => xlAt vw [] s && recOk (RowW.records rr) s
noncomputable abbrev SF (w : World) (os : OsState) : Shared := ⟨HH w.params, Array.mk [], { }, 805, os⟩
theorem look0 (w : World) (os : OsState) : (staticsOk (PySem.W.Fast.tw5923862056798008813 pw.main.body) (boot_heap w.params) (HH w.params) && namesBound pw (HH w.params) && gensDone (SF w os) && laidKept (boot_heap w.params) (HH w.params)) = true := by kernel_rfl
theorem look1 (w : World) (os : OsState) : PySem.W.Fast.tw5160383126252970620 (R.mapR (fun x => x.name) (PySem.W.Fast.tw3399658132070893891 vw)) (PySem.W.Fast.tw5991557255702980513 vw) [] { SF w os with gens := #[] } = expectedOf vw := by kernel_rfl
theorem look2 (w : World) (os : OsState) : (SF w os).heap.bltView = bltViewBooted := by kernel_rfl
theorem look3 (w : World) (os : OsState) : (PySem.W.Fast.tw10880121769531294198 (SF w os).heap (PySem.W.Fast.tw821141287760084731 vw lo) (R.mapR (fun x => x.name) (PySem.W.Fast.tw3399658132070893891 vw)) (R.mapR (fun x => x.fst) (PySem.W.Fast.tw7409074990110511671 vw)) (R.mapR (fun x => x.name) (PySem.W.Fast.tw13664370479719496447 vw (PySem.W.Fast.tw821141287760084731 vw lo))) && PySem.W.Fast.tw14722251495701143533 (SF w os).heap (PySem.W.Fast.tw5923862056798008813 pw.main.body) && (SF w os).heap.isNs mainGlobals && (SF w os).heap.isNs builtinsNs && PySem.W.Fast.tw10994771534591457954 vw (SF w os).heap && XT (SF w os) && if true = true then (SF w os).gens.size == 0 else !leftWithCleanup (SF w os).gens) = true := by kernel_rfl
theorem look4 (w : World) (os : OsState) : PySem.W.Fast.tw479339242167458305 vw (SF w os) = true := by kernel_rfl
theorem look5 (w : World) (os : OsState) : PySem.W.Fast.tw16090120013241838585 vw (PySem.W.Fast.tw3247288618530077131 vw) (SF w os) = pinGoodD (drecsOf vw) := by kernel_rfl
theorem look6 (w : World) (os : OsState) : PySem.W.Fast.tw2386780881361962483 vw (PySem.W.Fast.tw821141287760084731 vw lo) (SF w os) = plainGoodE vw (looseW vw lo) := by kernel_rfl
theorem look7 (w : World) (os : OsState) : PySem.W.Fast.tw11698064438423848299 vw lo (SF w os) = plainGoodD vw lo := by kernel_rfl
theorem look8 (w : World) (os : OsState) : PySem.W.Fast.tw7317090234206586261 vw (SF w os) = wideGood vw := by kernel_rfl
theorem look9 (w : World) (os : OsState) : PySem.W.Fast.tw7369524293546568484 vw lo (SF w os) = clsGoodW vw lo := by kernel_rfl
theorem look10 (w : World) (os : OsState) : Hook.obs hook (SF w os) = Hook.val hook w := by kernel_rfl
theorem b_looks (w : World) : (fun os => ((staticsOk (importedModules pw.main.body) (boot_heap w.params) (HH w.params) && namesBound pw (HH w.params) && gensDone (SF w os) && laidKept (boot_heap w.params) (HH w.params)),
        openSeen vw lo (importedModules pw.main.body) XT true (SF w os), Hook.obs hook (SF w os))) = fun _ => (true, openGood vw lo, Hook.val hook w) := by
  refine funext fun os => ?_
  rw [PySem.W.Fast.te4187177175401517315, PySem.W.Fast.te5923862056798008813]
  unfold PySem.W.Fast.tw4187177175401517315 openGood
  exact looks_pair (look0 w os) (looks_pair (looks_pair (look1 w os) (looks_pair (look2 w os) (looks_pair (look3 w os) (looks_pair (look4 w os) (looks_pair (look5 w os) (looks_pair (look6 w os) (looks_pair (look7 w os) (looks_pair (look8 w os) (look9 w os))))))))) (look10 w os))
theorem left : LeftO pw vw lo (fun s => xlAt vw [] s && recOk (RowW.records rr) s) (Hook.obs hook) (Hook.val hook) 6104 := LeftO.of_pieces b_open b_size run_top (by decide) b_looks

noncomputable def dr : Stmt → DefRec
  | .FunctionDef n a b _ _ _ s _ _ p => ⟨n, a, b, s, p⟩
  | _ => ⟨"", ⟨[], [], none, [], [], none, []⟩, [], ⟨.function, [], false, false, []⟩, ⟨0, 0, 0, 0⟩⟩
noncomputable def FooD (_ : DefRec) : Type := DefRec
noncomputable def mkD {n : Str} {a : Arguments} {b : List Stmt} {s : Scope} {p : Pos} : FooD ⟨n, a, b, s, p⟩ := ⟨n, a, b, s, p⟩
noncomputable def lawD : DefRec := (mkD : FooD (dr (nS pb 60)))
theorem said : (PySem.Challenge.rw_sm0097_01).wellSaid = true := by
  rw [PySem.W.Fast.te9446332074065402090]
  unfold PySem.W.Fast.tw9446332074065402090 PySem.W.Fast.tw17960256430627541270 PySem.W.Fast.tw2436336058641802641 PySem.W.Fast.tw12908688711261696721
  repeat' with_reducible refine look_both ?_ ?_
  all_goals decide +kernel
theorem h1 : defOf vw "law" = some (lawD, []) := by kernel_rfl
theorem h2 : pw.theDef "law" = some (lawD.params, lawD.body, lawD.scope) := by kernel_rfl
theorem h3 : kwWritten? lawD.params.kwonlyargs lawD.params.kw_defaults = some [] := by kernel_rfl
theorem h4 : (chainsOk vw && opensWell pw && (frees rr && rr.within.isEmpty)) = true := by kernel_rfl
theorem h5 : pw.bare := ⟨rfl, rfl, rfl, rfl, rfl, by decide +kernel⟩
theorem h6 : rr.promised := ⟨[.list [.int 3, .int 1]], by decide +kernel, by decide +kernel⟩
theorem hd (call : WalkO vw lo (XL vw []) (Hook.says hook) rr lawD [] fun f vs => PySem.call f vs) : PySem.Challenge.rw_sm0097_01.Holds :=
  holds_law said fun said => holds_open (q := vw) (loose := lo) (Xt := fun s => xlAt vw [] s && recOk (RowW.records rr) s) (XP := XL vw []) (Yf := Hook.obs hook) (Ya := Hook.val hook) (YP := Hook.says hook) (N := 6104) left (Hook.of hook) (Hook.keeps hook)
    (fun s e => xl_of s (Bool.and_eq_true_iff.mp e).1) XL.keeps h1 h2 h3 (fun s e => recFacts_of (Bool.and_eq_true_iff.mp e).2) rfl said h4 h5 h6 call


/-- frozen values: trees that never change again -/
inductive FV where
  | none
  | bool (b : Bool)
  | int (i : Int)
  | str (s : Str)
  | cst (v : Value)
  | lst (xs : List FV)
  | tup (xs : List FV)
  | dct (ks : List Str) (xs : List FV)
  | ins (c : Addr) (ks : List Str) (xs : List FV)
  | rng (a b : Int)
  deriving Inhabited
/-- abstract values: a frozen one, or `ref i`, the i-th object of the small heap -/
inductive AV where
  | f (v : FV)
  | ref (i : Nat)
  deriving Inhabited
noncomputable abbrev AV.none : AV := .f .none
noncomputable abbrev AV.bool (b : Bool) : AV := .f (.bool b)
noncomputable abbrev AV.int (i : Int) : AV := .f (.int i)
noncomputable abbrev AV.str (s : Str) : AV := .f (.str s)
noncomputable abbrev AV.cst (v : Value) : AV := .f (.cst v)
/-- the objects of the small heap -/
inductive HO where
  | lst (xs : List AV)
  | dct (ks : List Str) (xs : List AV)
  | ins (c : Addr) (ks : List Str) (xs : List AV)
  | dead

/-- what is frozen: z (lists, tuples, dicts, instances) and d (the instances' own dicts) -/
structure Fz where
  z : List (Addr × Obj)
  d : List (Addr × Obj)

noncomputable abbrev tupOf (its : Array Value) (n : Nat) : Obj := { cls := .type "tuple", data := .seq its n }
noncomputable abbrev rngOf (a b : Int) (t u v : Tok) : Obj := { cls := .type "range", dict := none, data := .fields #[.int a t, .int b u, .int 1 v], slots := #[] }
/-- a list object, a tuple object with these items -/
noncomputable def LO (o : Obj) (vs : List Value) : Prop := ∃ n, o = listOf vs.toArray n
noncomputable def TO (o : Obj) (vs : List Value) : Prop := ∃ n, o = tupOf vs.toArray n
theorem LO.is {h : Heap} {a : Addr} {o : Obj} {vs : List Value} (x : LO o vs) (e : h.get? a = some o) : h.IsList a vs.toArray := by
  obtain ⟨n, rfl⟩ := x
  exact ⟨_, e, rfl, n, rfl⟩

section
variable (prog : Program) (w : World)
mutual
inductive VF (Z : Fz) : FV → Value → Prop
  | none : VF Z .none .none
  | bool {b : Bool} : VF Z (.bool b) (.bool b)
  | int {i : Int} {t : Tok} : VF Z (.int i) (.int i t)
  | str {s : Str} {t : Tok} : VF Z (.str s) (.str s t)
  | cst {v : Value} : handedIn v = true → VF Z (.cst v) v
  | lst {xs : List FV} {vs : List Value} {a : Addr} {o : Obj} : (a, o) ∈ Z.z → LO o vs → VFs Z xs vs → VF Z (.lst xs) (.ref a)
  | tup {xs : List FV} {vs : List Value} {a : Addr} {o : Obj} : (a, o) ∈ Z.z → TO o vs → VFs Z xs vs → VF Z (.tup xs) (.ref a)
  | dct {ks : List Str} {xs : List FV} {vs : List Value} {a : Addr} {o : Obj} : (a == sysModules) = false → (a, o) ∈ Z.z → o.IsDictOf (strKind prog w) (ks.zip vs) → ks.length = vs.length → VFs Z xs vs → VF Z (.dct ks xs) (.ref a)
  | ins {c dx : Addr} {ks : List Str} {xs : List FV} {es : List DictEntry} {a : Addr} {n : Nat} : (a, instObj c dx) ∈ Z.z → (dx, dictOf es n) ∈ Z.d → EFs Z ks xs es → VF Z (.ins c ks xs) (.ref a)
  | rng {x y : Int} {a : Addr} {t u v : Tok} : (a, rngOf x y t u v) ∈ Z.z → VF Z (.rng x y) (.ref a)
inductive VFs (Z : Fz) : List FV → List Value → Prop
  | nil : VFs Z [] []
  | cons {x : FV} {xs : List FV} {v : Value} {vs : List Value} : VF Z x v → VFs Z xs vs → VFs Z (x :: xs) (v :: vs)
inductive EFs (Z : Fz) : List Str → List FV → List DictEntry → Prop
  | nil : EFs Z [] [] []
  | cons {k : Str} {ks : List Str} {x : FV} {xs : List FV} {e : DictEntry} {es : List DictEntry} {t : Tok} : e.key = .str k t → VF Z x e.val → EFs Z ks xs es → EFs Z (k :: ks) (x :: xs) (e :: es)
  | shared {ks : List Str} {x : FV} {xs : List FV} {e : DictEntry} {es : List DictEntry} {t : Tok} : e.key = .str "shared" t → EFs Z ks xs es → EFs Z ("shared" :: ks) (x :: xs) (e :: es)
end
inductive VR (Z : Fz) (φ : List Addr) : AV → Value → Prop
  | f {x : FV} {v : Value} : VF prog w Z x v → VR Z φ (.f x) v
  | ref {i : Nat} {a : Addr} : φ[i]? = some a → VR Z φ (.ref i) (.ref a)
inductive VRs (Z : Fz) (φ : List Addr) : List AV → List Value → Prop
  | nil : VRs Z φ [] []
  | cons {x : AV} {xs : List AV} {v : Value} {vs : List Value} : VR prog w Z φ x v → VRs Z φ xs vs → VRs Z φ (x :: xs) (v :: vs)
inductive ERs (Z : Fz) (φ : List Addr) : List Str → List AV → List DictEntry → Prop
  | nil : ERs Z φ [] [] []
  | cons {k : Str} {ks : List Str} {x : AV} {xs : List AV} {e : DictEntry} {es : List DictEntry} {t : Tok} : e.key = .str k t → VR prog w Z φ x e.val → ERs Z φ ks xs es → ERs Z φ (k :: ks) (x :: xs) (e :: es)
  | shared {ks : List Str} {x : AV} {xs : List AV} {e : DictEntry} {es : List DictEntry} {t : Tok} : e.key = .str "shared" t → ERs Z φ ks xs es → ERs Z φ ("shared" :: ks) (x :: xs) (e :: es)
end

/-- an object's own dict may differ at 'shared' alone -/
inductive DS : List DictEntry → List DictEntry → Prop
  | nil : DS [] []
  | same {e : DictEntry} {es es' : List DictEntry} : DS es es' → DS (e :: es) (e :: es')
  | shared {e e' : DictEntry} {es es' : List DictEntry} {t t' : Tok} : e.key = .str "shared" t → e'.key = .str "shared" t' → DS es es' → DS (e :: es) (e' :: es')
theorem DS.refl (es : List DictEntry) : DS es es := by
  induction es with
  | nil => exact .nil
  | cons e es ih => exact .same ih
/-- the first entry's two cases -/
theorem DS.inv {e : DictEntry} {es c : List DictEntry} (h : DS (e :: es) c) {P : List DictEntry → Prop} (h1 : ∀ es', DS es es' → P (e :: es')) (h2 : ∀ e' es' t t', e.key = .str "shared" t → e'.key = .str "shared" t' → DS es es' → P (e' :: es')) : P c := by
  cases h with
  | same s => exact h1 _ s
  | shared a b s => exact h2 _ _ _ _ a b s
theorem DS.nil_inv {c : List DictEntry} (h : DS [] c) : c = [] := by cases h; rfl
theorem DS.trans {a b c : List DictEntry} (x : DS a b) (y : DS b c) : DS a c := by
  induction x generalizing c with
  | nil => exact y
  | same _ ih => exact y.inv (fun _ s => .same (ih s)) (fun _ _ _ _ h1 h2 s => .shared h1 h2 (ih s))
  | shared h1 h2 _ ih => exact y.inv (fun _ s => .shared h1 h2 (ih s)) (fun _ _ _ _ _ k2 s => .shared h1 k2 (ih s))

structure FLe (Z Z' : Fz) : Prop where
  z : ∀ q ∈ Z.z, q ∈ Z'.z
  d : ∀ a es n, (a, dictOf es n) ∈ Z.d → ∃ es' n', (a, dictOf es' n') ∈ Z'.d ∧ DS es es'
theorem FLe.refl (Z : Fz) : FLe Z Z := ⟨fun _ h => h, fun _ es n h => ⟨es, n, h, DS.refl es⟩⟩
theorem FLe.trans {Z Z' Z'' : Fz} (x : FLe Z Z') (y : FLe Z' Z'') : FLe Z Z'' :=
  ⟨fun q h => y.z q (x.z q h), fun a es n h => by
    obtain ⟨es', n', h', s⟩ := x.d a es n h
    obtain ⟨es'', n'', h'', s'⟩ := y.d a es' n' h'
    exact ⟨es'', n'', h'', s.trans s'⟩⟩

noncomputable def PLe (φ φ' : List Addr) : Prop := ∃ t, φ' = φ ++ t
theorem PLe.refl (φ : List Addr) : PLe φ φ := ⟨[], by simp⟩
theorem PLe.trans {a b c : List Addr} (x : PLe a b) (y : PLe b c) : PLe a c := by
  obtain ⟨t, rfl⟩ := x
  obtain ⟨u, rfl⟩ := y
  exact ⟨t ++ u, by simp⟩
theorem PLe.get {φ φ' : List Addr} (x : PLe φ φ') {i : Nat} {a : Addr} (h : φ[i]? = some a) : φ'[i]? = some a := by
  obtain ⟨t, rfl⟩ := x
  obtain ⟨l, e⟩ := List.getElem?_eq_some_iff.mp h
  rw [List.getElem?_append_left l]; exact h

section
variable {prog : Program} {w : World}
theorem key_eq {e : DictEntry} {k k' : Str} {t t' : Tok} (h : e.key = .str k t) (h' : e.key = .str k' t') : k = k' := by
  rw [h] at h'; injection h'
theorem EFs.mono_c {Z' : Fz} {k : Str} {ks : List Str} {x : FV} {xs : List FV} {e : DictEntry} {es c : List DictEntry} {t : Tok} (h : e.key = .str k t) (v : VF prog w Z' x e.val) (r : ∀ es', DS es es' → EFs prog w Z' ks xs es') (s : DS (e :: es) c) : EFs prog w Z' (k :: ks) (x :: xs) c :=
  s.inv (fun _ s => .cons h v (r _ s)) (fun _ _ _ _ h1 h2 s => key_eq h1 h ▸ .shared h2 (r _ s))
theorem EFs.mono_s {Z' : Fz} {ks : List Str} {x : FV} {xs : List FV} {e : DictEntry} {es c : List DictEntry} {t : Tok} (h : e.key = .str "shared" t) (r : ∀ es', DS es es' → EFs prog w Z' ks xs es') (s : DS (e :: es) c) : EFs prog w Z' ("shared" :: ks) (x :: xs) c :=
  s.inv (fun _ s => .shared h (r _ s)) (fun _ _ _ _ _ h2 s => .shared h2 (r _ s))
theorem VF.mono {Z Z' : Fz} (f : FLe Z Z') {x : FV} {v : Value} (h : VF prog w Z x v) : VF prog w Z' x v := (VF.rec (motive_1 := fun x v _ => VF prog w Z' x v) (motive_2 := fun xs vs _ => VFs prog w Z' xs vs) (motive_3 := fun ks xs es _ => ∀ es', DS es es' → EFs prog w Z' ks xs es')
    .none .bool .int .str (fun h => .cst h) (fun h l _ r => .lst (f.z _ h) l r) (fun h l _ r => .tup (f.z _ h) l r) (fun q h i l _ r => .dct q (f.z _ h) i l r)
    (fun h h2 _ r => let ⟨_, _, h3, s⟩ := f.d _ _ _ h2; .ins (f.z _ h) h3 (r _ s)) (fun h => .rng (f.z _ h)) .nil (fun _ _ h r => .cons h r)
    (fun _ s => s.nil_inv ▸ .nil) (fun h _ _ v r _ s => EFs.mono_c h v r s) (fun h _ r _ s => EFs.mono_s h r s) h)
theorem VFs.mono {Z Z' : Fz} (f : FLe Z Z') {xs : List FV} {vs : List Value} (h : VFs prog w Z xs vs) : VFs prog w Z' xs vs := by
  induction xs generalizing vs with
  | nil => cases h; exact .nil
  | cons x xs ih => cases h with | cons a r => exact .cons (a.mono f) (ih r)
theorem ERs.mono_c {Z' : Fz} {φ : List Addr} {k : Str} {ks : List Str} {x : AV} {xs : List AV} {e : DictEntry} {es c : List DictEntry} {t : Tok} (h : e.key = .str k t) (v : VR prog w Z' φ x e.val) (r : ∀ es', DS es es' → ERs prog w Z' φ ks xs es') (s : DS (e :: es) c) : ERs prog w Z' φ (k :: ks) (x :: xs) c :=
  s.inv (fun _ s => .cons h v (r _ s)) (fun _ _ _ _ h1 h2 s => key_eq h1 h ▸ .shared h2 (r _ s))
theorem ERs.mono_s {Z' : Fz} {φ : List Addr} {ks : List Str} {x : AV} {xs : List AV} {e : DictEntry} {es c : List DictEntry} {t : Tok} (h : e.key = .str "shared" t) (r : ∀ es', DS es es' → ERs prog w Z' φ ks xs es') (s : DS (e :: es) c) : ERs prog w Z' φ ("shared" :: ks) (x :: xs) c :=
  s.inv (fun _ s => .shared h (r _ s)) (fun _ _ _ _ _ h2 s => .shared h2 (r _ s))
theorem VR.mono {Z Z' : Fz} {φ φ' : List Addr} (f : FLe Z Z') (g : ∀ (i : Nat) (a : Addr), φ[i]? = some a → φ'[i]? = some a) {x : AV} {v : Value} (h : VR prog w Z φ x v) : VR prog w Z' φ' x v := by
  cases h with
  | f h => exact .f (h.mono f)
  | ref h => exact .ref (g _ _ h)
theorem VRs.mono {Z Z' : Fz} {φ φ' : List Addr} (f : FLe Z Z') (g : ∀ (i : Nat) (a : Addr), φ[i]? = some a → φ'[i]? = some a) {xs : List AV} {vs : List Value} (h : VRs prog w Z φ xs vs) : VRs prog w Z' φ' xs vs := by
  induction h with
  | nil => exact .nil
  | cons a _ ih => exact .cons (a.mono f g) ih
theorem ERs.mono {Z Z' : Fz} {φ φ' : List Addr} (f : FLe Z Z') (g : ∀ (i : Nat) (a : Addr), φ[i]? = some a → φ'[i]? = some a) {ks : List Str} {xs : List AV} {es es' : List DictEntry} (h : ERs prog w Z φ ks xs es) (s : DS es es') : ERs prog w Z' φ' ks xs es' := by
  induction h generalizing es' with
  | nil => exact s.nil_inv ▸ .nil
  | cons h v _ ih => exact ERs.mono_c h (v.mono f g) (fun _ s => ih s) s
  | shared h _ ih => exact ERs.mono_s h (fun _ s => ih s) s
theorem VFs.vrs {Z : Fz} {φ : List Addr} {xs : List FV} {vs : List Value} (h : VFs prog w Z xs vs) : VRs prog w Z φ (xs.map .f) vs := by
  induction xs generalizing vs with
  | nil => cases h; exact .nil
  | cons x xs ih => cases h with | cons a r => exact .cons (.f a) (ih r)
theorem VR.fv {Z : Fz} {φ : List Addr} {x : FV} {v : Value} (h : VR prog w Z φ (.f x) v) : VF prog w Z x v := by cases h; assumption
theorem VRs.vfs {Z : Fz} {φ : List Addr} {xs : List FV} {vs : List Value} (h : VRs prog w Z φ (xs.map .f) vs) : VFs prog w Z xs vs := by
  induction xs generalizing vs with
  | nil => cases h; exact .nil
  | cons x xs ih => cases h with | cons a r => exact .cons a.fv (ih r)
theorem EFs.ers {Z : Fz} {φ : List Addr} {ks : List Str} {xs : List FV} {es : List DictEntry} (h : EFs prog w Z ks xs es) : ERs prog w Z φ ks (xs.map .f) es := by
  induction xs generalizing ks es with
  | nil => cases h; exact .nil
  | cons x xs ih => cases h with
    | cons a v r => exact .cons a (.f v) (ih r)
    | shared a r => exact .shared a (ih r)
theorem ERs.efs {Z : Fz} {φ : List Addr} {ks : List Str} {xs : List FV} {es : List DictEntry} (h : ERs prog w Z φ ks (xs.map .f) es) : EFs prog w Z ks xs es := by
  induction xs generalizing ks es with
  | nil => cases h; exact .nil
  | cons x xs ih => cases h with
    | cons a v r => exact .cons a v.fv (ih r)
    | shared a r => exact .shared a (ih r)
theorem VRs.len {Z : Fz} {φ : List Addr} {xs : List AV} {vs : List Value} (h : VRs prog w Z φ xs vs) : xs.length = vs.length := by
  induction h with
  | nil => rfl
  | cons _ _ ih => exact congrArg (· + 1) ih
theorem VFs.len {Z : Fz} {xs : List FV} {vs : List Value} (h : VFs prog w Z xs vs) : xs.length = vs.length := by
  have := (h.vrs (φ := [])).len
  rwa [List.length_map] at this
theorem VRs.get {Z : Fz} {φ : List Addr} {xs : List AV} {vs : List Value} {i : Nat} {x : AV} (h : VRs prog w Z φ xs vs) (e : xs[i]? = some x) : ∃ v, vs[i]? = some v ∧ VR prog w Z φ x v := by
  induction h generalizing i with
  | nil => cases e
  | cons a _ ih => cases i with
    | zero => exact ⟨_, rfl, Option.some.inj e ▸ a⟩
    | succ i => exact ih (i := i) e
theorem VRs.append {Z : Fz} {φ : List Addr} {xs ys : List AV} {vs us : List Value} (h : VRs prog w Z φ xs vs) (y : VRs prog w Z φ ys us) : VRs prog w Z φ (xs ++ ys) (vs ++ us) := by
  induction h with
  | nil => exact y
  | cons a _ ih => exact .cons a ih
theorem VRs.take {Z : Fz} {φ : List Addr} (n : Nat) {xs : List AV} {vs : List Value} (h : VRs prog w Z φ xs vs) : VRs prog w Z φ (xs.take n) (vs.take n) := by
  induction h generalizing n with
  | nil => cases n <;> exact .nil
  | cons a _ ih => cases n with
    | zero => exact .nil
    | succ n => exact .cons a (ih n)
theorem VRs.drop {Z : Fz} {φ : List Addr} (n : Nat) {xs : List AV} {vs : List Value} (h : VRs prog w Z φ xs vs) : VRs prog w Z φ (xs.drop n) (vs.drop n) := by
  induction h generalizing n with
  | nil => cases n <;> exact .nil
  | cons a r ih => cases n with
    | zero => exact .cons a r
    | succ n => exact ih n
theorem VRs.set {Z : Fz} {φ : List Addr} {x : AV} {v : Value} (k : VR prog w Z φ x v) (i : Nat) {xs : List AV} {vs : List Value} (h : VRs prog w Z φ xs vs) : VRs prog w Z φ (xs.set i x) (vs.set i v) := by
  induction h generalizing i with
  | nil => cases i <;> exact .nil
  | cons a r ih => cases i with
    | zero => exact .cons k r
    | succ i => exact .cons a (ih i)
end


noncomputable abbrev Led := List (Addr × Obj)

/-- what does not change: program, world, the written part of the heap, the top's names -/
structure Gl where
  prog : Program
  w : World
  K : Frag
  p : Program
  loose : List Str
  mean : ExcName → Option Value
  mg : Str → Option Value
  mb : Str → Option Value
  gs : Array GenState
  dr : Drawn
  os : OsState

inductive Slot where
  | l (x : Str)
  | c (x : Str) (a : Addr)
  | d (x : Str) (a : Addr)

inductive Mode where
  | fn
  | cp (Lc : Addr) (m₀ : Str → Option Value)

/-- a frame -/
structure Cx where
  A : Around
  env : Env
  fenv : Env
  outer : List Env
  A₀ : Around
  base : Heap
  h₀ : Heap
  L : Addr
  mode : Mode
  slots : List Slot
  pl : Bool

structure Ent where
  a : Addr
  own : Led

noncomputable def adr (W : List Ent) : List Addr := W.map (·.a)
noncomputable def led (W : List Ent) : Led := W.flatMap (·.own)

structure St where
  heap : List HO
  loc : List (Option AV)

noncomputable def Gl.mk' (g : Gl) (h : Heap) (tk : Nat) : Shared := ⟨h, g.gs, g.dr, tk, g.os⟩

section
variable (g : Gl)
inductive OR (Z : Fz) (φ : List Addr) : HO → Ent → Prop
  | lst {xs : List AV} {vs : List Value} {a : Addr} {o : Obj} : LO o vs → VRs g.prog g.w Z φ xs vs → OR Z φ (.lst xs) ⟨a, [(a, o)]⟩
  | dct {ks : List Str} {xs : List AV} {vs : List Value} {a : Addr} {o : Obj} : (a == sysModules) = false → o.IsDictOf (strKind g.prog g.w) (ks.zip vs) → ks.length = vs.length → VRs g.prog g.w Z φ xs vs → OR Z φ (.dct ks xs) ⟨a, [(a, o)]⟩
  | ins {c dx : Addr} {ks : List Str} {xs : List AV} {es : List DictEntry} {a : Addr} {n : Nat} : ERs g.prog g.w Z φ ks xs es → OR Z φ (.ins c ks xs) ⟨a, [(a, instObj c dx), (dx, dictOf es n)]⟩
  | dead {a : Addr} : OR Z φ .dead ⟨a, []⟩
inductive ORs (Z : Fz) (φ : List Addr) : List HO → List Ent → Prop
  | nil : ORs Z φ [] []
  | cons {x : HO} {xs : List HO} {e : Ent} {es : List Ent} : OR g Z φ x e → ORs Z φ xs es → ORs Z φ (x :: xs) (e :: es)
noncomputable def OV (Z : Fz) (φ : List Addr) : Option AV → Option Value → Prop
  | .none, _ => True
  | .some x, .some v => VR g.prog g.w Z φ x v
  | .some _, .none => False
inductive SR (Z : Fz) (φ : List Addr) (m : Str → Option Value) : List Slot → List (Option AV) → Led → Prop
  | nil : SR Z φ m [] [] []
  | l {x : Str} {u : Option AV} {ss : List Slot} {us : List (Option AV)} {Cs : Led} : OV g Z φ u (m x) → SR Z φ m ss us Cs → SR Z φ m (.l x :: ss) (u :: us) Cs
  | c {x : Str} {a : Addr} {o : Obj} {ov : Option Value} {u : Option AV} {ss : List Slot} {us : List (Option AV)} {Cs : Led} : o.data = .cell ov → OV g Z φ u ov → SR Z φ m ss us Cs → SR Z φ m (.c x a :: ss) (u :: us) ((a, o) :: Cs)
  | d {x : Str} {a : Addr} {o : Obj} {ov : Option Value} {u : Option AV} {ss : List Slot} {us : List (Option AV)} {Cs : Led} : o.data = .cell ov → OV g Z φ u ov → SR Z φ m ss us Cs → SR Z φ m (.d x a :: ss) (u :: us) ((a, o) :: Cs)
end

noncomputable def NsO (o : Obj) (m : Str → Option Value) : Prop := ∃ es ep, o.data = .dict es ep ∧ StrKeys es ∧ ∀ name, nsFind es name = m name
theorem NsO.ns {h : Heap} {a : Addr} {o : Obj} {m : Str → Option Value} (x : NsO o m) (e : h.get? a = some o) : h.Ns a m := by
  obtain ⟨es, ep, h1, h2, h3⟩ := x
  exact ⟨o, es, ep, e, h1, h2, h3⟩
theorem NsO.of {h : Heap} {a : Addr} {m : Str → Option Value} (x : h.Ns a m) : ∃ o, h.get? a = some o ∧ NsO o m := by
  obtain ⟨o, es, ep, e, h1, h2, h3⟩ := x
  exact ⟨o, e, es, ep, h1, h2, h3⟩

noncomputable def ledger (kd Cs Y : Led) (Z : Fz) (W : List Ent) : Led := kd ++ (Cs ++ (Y ++ (Z.z ++ (Z.d ++ led W))))

noncomputable def Loc (g : Gl) (C : Cx) (Z : Fz) (φ : List Addr) (mF : Str → Option Value) (kd Cs : Led) (loc : List (Option AV)) : Prop :=
  match C.mode with
  | .fn => kd = [] ∧ SR g Z φ mF C.slots loc Cs
  | .cp Lc m₀ => mF = m₀ ∧ ∃ o m, kd = [(Lc, o)] ∧ NsO o m ∧ SR g Z φ m C.slots loc Cs

structure RelM (g : Gl) (C : Cx) (Y : Led) (Z : Fz) (W : List Ent) (σ : St) (h : Heap) (mF : Str → Option Value) (kd Cs : Led) : Prop where
  fr : Fr C.h₀ C.L h mF
  nw : News C.h₀ C.L h (ledger kd Cs Y Z W)
  nd : ((ledger kd Cs Y Z W).map (·.1)).Nodup
  lo : Loc g C Z (adr W) mF kd Cs σ.loc
  or : ORs g Z (adr W) σ.heap W
noncomputable def Rel (g : Gl) (C : Cx) (Y : Led) (Z : Fz) (W : List Ent) (σ : St) (h : Heap) : Prop := ∃ mF kd Cs, RelM g C Y Z W σ h mF kd Cs

/-- what a computation may end in besides -/
structure XC where
  p : Led → Fz → Value → Shared → Prop
  mono : ∀ {Y Z Z₁ e s}, FLe Z Z₁ → p Y Z₁ e s → p Y Z e s
noncomputable def XC.no : XC := ⟨fun _ _ _ _ => False, fun _ h => h⟩

/-- what a continuation gets -/
noncomputable def Kq (g : Gl) (C : Cx) (Y : Led) (Z : Fz) (W : List Ent) {α β : Type} (R : Fz → List Addr → β → α → Prop) (Q : β → St → Prop) (Qc : α → Shared → Prop) : Prop :=
  ∀ b σ' v Z' W' h' tk', Q b σ' → Rel g C Y Z' W' σ' h' → FLe Z Z' → PLe (adr W) (adr W') → R Z' (adr W') b v → Qc v (g.mk' h' tk')
noncomputable def Ke (X : XC) (Y : Led) (Z : Fz) (Ec : Value → Shared → Prop) : Prop := ∀ e s', X.p Y Z e s' → Ec e s'
noncomputable def AWg (g : Gl) (C : Cx) (X : XC) {α β : Type} (R : Fz → List Addr → β → α → Prop) (t : Sem α) (Q : β → St → Prop) (σ : St) : Prop :=
  ∀ Y Z W h tk, Rel g C Y Z W σ h → ∀ (Qc : α → Shared → Prop) (Ec : Value → Shared → Prop),
    Kq g C Y Z W R Q Qc → Ke X Y Z Ec → wpAny (model g.prog g.w) C.A t Qc Ec (g.mk' h tk)

noncomputable abbrev AW (g : Gl) (C : Cx) (X : XC) (t : Sem Value) (Q : AV → St → Prop) (σ : St) : Prop := AWg g C X (VR g.prog g.w) t Q σ
noncomputable abbrev AWs (g : Gl) (C : Cx) (X : XC) (t : Sem (List Value)) (Q : List AV → St → Prop) (σ : St) : Prop := AWg g C X (VRs g.prog g.w) t Q σ
noncomputable abbrev AWb (g : Gl) (C : Cx) (X : XC) (t : Sem Bool) (Q : Bool → St → Prop) (σ : St) : Prop := AWg g C X (fun _ _ b v => v = b) t Q σ
noncomputable abbrev AWu (g : Gl) (C : Cx) (X : XC) (t : Sem Unit) (Q : St → Prop) (σ : St) : Prop := AWg g C X (fun _ _ (_ : Unit) _ => True) t (fun _ => Q) σ

/-- the small heap only grows (where someone else looks at it) -/
noncomputable def PC (C : Cx) (φ φ' : List Addr) : Prop := C.pl = true → PLe φ φ'
theorem PC.refl {C : Cx} (φ : List Addr) : PC C φ φ := fun _ => PLe.refl φ
theorem PC.trans {C : Cx} {a b c : List Addr} (x : PC C a b) (y : PC C b c) : PC C a c := fun h => (x h).trans (y h)
theorem PLe.pc {C : Cx} {a b : List Addr} (x : PLe a b) : PC C a b := fun _ => x

section
variable {g : Gl}
theorem OR.mono {Z Z' : Fz} {φ φ' : List Addr} (f : FLe Z Z') (k : ∀ (i : Nat) (a : Addr), φ[i]? = some a → φ'[i]? = some a) {x : HO} {e : Ent} (h : OR g Z φ x e) : OR g Z' φ' x e := by
  cases h with
  | lst l r => exact .lst l (r.mono f k)
  | dct q i l r => exact .dct q i l (r.mono f k)
  | ins r => exact .ins (r.mono f k (DS.refl _))
  | dead => exact .dead
theorem ORs.mono {Z Z' : Fz} {φ φ' : List Addr} (f : FLe Z Z') (k : ∀ (i : Nat) (a : Addr), φ[i]? = some a → φ'[i]? = some a) {xs : List HO} {es : List Ent} (h : ORs g Z φ xs es) : ORs g Z' φ' xs es := by
  induction h with
  | nil => exact .nil
  | cons a _ ih => exact .cons (a.mono f k) ih
theorem OV.mono {Z Z' : Fz} {φ φ' : List Addr} (f : FLe Z Z') (k : ∀ (i : Nat) (a : Addr), φ[i]? = some a → φ'[i]? = some a) {u : Option AV} {v : Option Value} (h : OV g Z φ u v) : OV g Z' φ' u v := by
  cases u with
  | none => trivial
  | some x => cases v with
    | none => exact h.elim
    | some y => exact VR.mono (prog := g.prog) (w := g.w) f k h
theorem OV.get {Z : Fz} {φ : List Addr} {x : AV} {v : Option Value} (h : OV g Z φ (some x) v) : ∃ u, v = some u ∧ VR g.prog g.w Z φ x u := by
  cases v with
  | none => exact h.elim
  | some u => exact ⟨u, rfl, h⟩
theorem SR.map {Z Z' : Fz} {φ φ' : List Addr} {m m' : Str → Option Value} (F : Option AV → Option AV) {ss : List Slot} {us : List (Option AV)} {Cs : Led} (h : SR g Z φ m ss us Cs)
    (k : ∀ u ∈ us, ∀ v, OV g Z φ u v → OV g Z' φ' (F u) v) (e : ∀ y, .l y ∈ ss → m y = m' y) : SR g Z' φ' m' ss (us.map F) Cs := by
  induction h with
  | nil => exact .nil
  | l a _ ih => exact .l (e _ (.head _) ▸ k _ (.head _) _ a) (ih (fun u hu => k u (.tail _ hu)) fun y hy => e y (.tail _ hy))
  | c d a _ ih => exact .c d (k _ (.head _) _ a) (ih (fun u hu => k u (.tail _ hu)) fun y hy => e y (.tail _ hy))
  | d d a _ ih => exact .d d (k _ (.head _) _ a) (ih (fun u hu => k u (.tail _ hu)) fun y hy => e y (.tail _ hy))
theorem SR.map' {Z Z' : Fz} {φ φ' : List Addr} {m m' : Str → Option Value} {ss : List Slot} {us : List (Option AV)} {Cs : Led} (h : SR g Z φ m ss us Cs)
    (k : ∀ u ∈ us, ∀ v, OV g Z φ u v → OV g Z' φ' u v) (e : ∀ y, .l y ∈ ss → m y = m' y) : SR g Z' φ' m' ss us Cs := List.map_id us ▸ h.map id k e
theorem SR.mono {Z Z' : Fz} {φ φ' : List Addr} {m : Str → Option Value} (f : FLe Z Z') (k : ∀ (i : Nat) (a : Addr), φ[i]? = some a → φ'[i]? = some a) {ss : List Slot} {us : List (Option AV)} {Cs : Led} (h : SR g Z φ m ss us Cs) : SR g Z' φ' m ss us Cs :=
  h.map' (fun _ _ _ o => o.mono f k) fun _ _ => rfl
/-- the first slot apart -/
theorem SR.tl {Z : Fz} {φ : List Addr} {m : Str → Option Value} {s : Slot} {ss : List Slot} {us : List (Option AV)} {Cs : Led} (h : SR g Z φ m (s :: ss) us Cs) :
    ∃ u us' pre Cs', us = u :: us' ∧ Cs = pre ++ Cs' ∧ SR g Z φ m ss us' Cs' ∧ ∀ m' us₂ Cs₂, (∀ y, s = .l y → m y = m' y) → SR g Z φ m' ss us₂ Cs₂ → SR g Z φ m' (s :: ss) (u :: us₂) (pre ++ Cs₂) := by
  cases h with
  | l o r => exact ⟨_, _, [], _, rfl, rfl, r, fun m' us₂ Cs₂ e r => .l (e _ rfl ▸ o) r⟩
  | c d o r => exact ⟨_, _, [_], _, rfl, rfl, r, fun m' us₂ Cs₂ e r => .c d o r⟩
  | d d o r => exact ⟨_, _, [_], _, rfl, rfl, r, fun m' us₂ Cs₂ e r => .d d o r⟩
theorem Loc.mono {C : Cx} {Z Z' : Fz} {φ φ' : List Addr} {mF : Str → Option Value} {kd Cs : Led} {loc : List (Option AV)} (f : FLe Z Z') (k : ∀ (i : Nat) (a : Addr), φ[i]? = some a → φ'[i]? = some a) (h : Loc g C Z φ mF kd Cs loc) : Loc g C Z' φ' mF kd Cs loc := by
  unfold Loc at *
  generalize C.mode = md at h ⊢
  cases md with
  | fn => exact ⟨h.1, h.2.mono f k⟩
  | cp Lc m₀ =>
    obtain ⟨h1, o, m, h2, h3, h4⟩ := h
    exact ⟨h1, o, m, h2, h3, h4.mono f k⟩

variable {C : Cx} {X : XC} {α β γ δ : Type} {R : Fz → List Addr → β → α → Prop} {R' : Fz → List Addr → δ → γ → Prop} {σ : St}

theorem AWg.mono {t : Sem α} {Q Q' : β → St → Prop} (h : AWg g C X R t Q σ) (k : ∀ b s, Q b s → Q' b s) : AWg g C X R t Q' σ :=
  fun Y Z W hh tk r Qc Ec q e => h Y Z W hh tk r Qc Ec (fun b σ' v Z' W' h' tk' x => q b σ' v Z' W' h' tk' (k _ _ x)) e

/-- two steps, one behind the other; what the first gives is held while the second runs -/
theorem AWg.seq {t : Sem α} {f : α → Sem γ} {Q : δ → St → Prop} {P : β → St → Prop}
    (h : AWg g C X R t P σ)
    (k : ∀ b σ₁, P b σ₁ → ∀ v Z₁ φ₁, R Z₁ φ₁ b v → (∀ Z₂ φ₂, FLe Z₁ Z₂ → PLe φ₁ φ₂ → R Z₂ φ₂ b v) → AWg g C X R' (f v) Q σ₁)
    (mono : ∀ b v Z₁ φ₁ Z₂ φ₂, R Z₁ φ₁ b v → FLe Z₁ Z₂ → PLe φ₁ φ₂ → R Z₂ φ₂ b v) : AWg g C X R' (t >>= f) Q σ := by
  intro Y Z W hh tk r Qc Ec q e
  refine wpAny_bind (h Y Z W hh tk r _ Ec (fun b σ₁ v Z₁ W₁ h₁ tk₁ hp r₁ f₁ p₁ x => ?_) e)
  refine k b σ₁ hp v Z₁ (adr W₁) x (fun Z₂ φ₂ a c => mono b v _ _ _ _ x a c) Y Z₁ W₁ h₁ tk₁ r₁ Qc Ec (fun b' σ' v' Z' W' h' tk' hq r' f' p' x' => ?_) fun e' s' z => e e' s' (X.mono f₁ z)
  exact q b' σ' v' Z' W' h' tk' hq r' (f₁.trans f') (p₁.trans p') x'
end


theorem Upd.mk' {d : Addr} {o o' : Obj} {post : Led} (h2 : ∀ p ∈ post, p.1 ≠ d) : ∀ {pre : Led}, (∀ p ∈ pre, p.1 ≠ d) → Upd d o o' (pre ++ (d, o) :: post) (pre ++ (d, o') :: post)
  | [], _ => .head h2
  | p :: _, h1 => .tail (h1 p (.head _)) (Upd.mk' h2 fun q hq => h1 q (.tail _ hq))
theorem UpdF.mk' {d : Addr} {o : Obj} {post : Led} (h2 : ∀ p ∈ post, p.1 ≠ d) : ∀ {pre : Led}, (∀ p ∈ pre, p.1 ≠ d) → UpdF d o (pre ++ (d, o) :: post) (fun o' => pre ++ (d, o') :: post)
  | [], _ => .head h2
  | p :: _, h1 => .tail (h1 p (.head _)) (UpdF.mk' h2 fun q hq => h1 q (.tail _ hq))

theorem nodup_split {d : Addr} {o : Obj} {P S : Led} (h : ((P ++ (d, o) :: S).map (·.1)).Nodup) : (∀ p ∈ P, p.1 ≠ d) ∧ (∀ p ∈ S, p.1 ≠ d) ∧ ∀ o', ((P ++ (d, o') :: S).map (·.1)).Nodup := by
  rw [List.map_append, List.map_cons] at h
  obtain ⟨_, h2, h3⟩ := List.nodup_append.mp h
  refine ⟨fun p hp => ?_, fun p hp => ?_, fun o' => by rw [List.map_append, List.map_cons]; exact h⟩
  · exact h3 p.1 (List.mem_map_of_mem hp) d (.head _)
  · exact fun e => (List.nodup_cons.mp h2).1 (List.mem_map.mpr ⟨p, hp, e⟩)

theorem led_append (W V : List Ent) : led (W ++ V) = led W ++ led V := by unfold led; rw [List.flatMap_append]
theorem led_cons (e : Ent) (W : List Ent) : led (e :: W) = e.own ++ led W := rfl
theorem set_split {W : List Ent} {i : Nat} {e : Ent} (h : W[i]? = some e) (e' : Ent) : W = W.take i ++ e :: W.drop (i + 1) ∧ W.set i e' = W.take i ++ e' :: W.drop (i + 1) := by
  obtain ⟨hl, he⟩ := List.getElem?_eq_some_iff.mp h
  refine ⟨?_, List.set_eq_take_append_cons_drop.trans (if_pos hl)⟩
  rw [← he, ← List.drop_eq_getElem_cons hl, List.take_append_drop]
theorem adr_set {W : List Ent} {i : Nat} {e e' : Ent} (h : W[i]? = some e) (ha : e'.a = e.a) : adr (W.set i e') = adr W := by
  unfold adr
  rw [List.map_set, ha]
  have : (W.map (·.a))[i]? = some e.a := by rw [List.getElem?_map, h]; rfl
  exact PySem.W.X.set_same this
theorem adr_get {W : List Ent} {i : Nat} {e : Ent} (h : W[i]? = some e) : (adr W)[i]? = some e.a := by
  unfold adr; rw [List.getElem?_map, h]; rfl
theorem adr_append (W V : List Ent) : adr (W ++ V) = adr W ++ adr V := List.map_append ..

theorem ledger_at {kd Cs Y : Led} {Z : Fz} {W : List Ent} {i : Nat} {e : Ent} {pre post : Led} {d : Addr} {o : Obj} (hi : W[i]? = some e) (ho : e.own = pre ++ (d, o) :: post) :
    ∃ P S, ledger kd Cs Y Z W = P ++ (d, o) :: S ∧ ∀ o' e', e'.own = pre ++ (d, o') :: post → ledger kd Cs Y Z (W.set i e') = P ++ (d, o') :: S := by
  refine ⟨kd ++ (Cs ++ (Y ++ (Z.z ++ (Z.d ++ (led (W.take i) ++ pre))))), post ++ led (W.drop (i + 1)), ?_, fun o' e' he => ?_⟩
  · unfold ledger
    conv => lhs; rw [(set_split hi e).1]
    rw [led_append, led_cons, ho]
    simp only [List.append_assoc, List.cons_append]
  · unfold ledger
    rw [(set_split hi e').2, led_append, led_cons, he]
    simp only [List.append_assoc, List.cons_append]

theorem perm_in {α : Type} {q : α} {a b c : List α} (h : b.Perm (q :: c)) : (a ++ b).Perm (q :: (a ++ c)) := (List.Perm.append_left a h).trans List.perm_middle
theorem ledger_z {kd Cs Y : Led} {Z : Fz} {W : List Ent} (q : Addr × Obj) : (ledger kd Cs Y ⟨q :: Z.z, Z.d⟩ W).Perm (q :: ledger kd Cs Y Z W) :=
  perm_in (perm_in (perm_in (List.Perm.refl _)))
theorem ledger_d {kd Cs Y : Led} {Z : Fz} {W : List Ent} (q : Addr × Obj) : (ledger kd Cs Y ⟨Z.z, q :: Z.d⟩ W).Perm (q :: ledger kd Cs Y Z W) :=
  perm_in (perm_in (perm_in (perm_in (List.Perm.refl _))))
theorem ledger_w {kd Cs Y : Led} {Z : Fz} {W : List Ent} (e : Ent) : ledger kd Cs Y Z (W ++ [e]) = ledger kd Cs Y Z W ++ e.own := by
  unfold ledger
  rw [led_append]
  simp only [List.append_assoc, led, List.flatMap_cons, List.flatMap_nil, List.append_nil]
theorem newsPerm {h₀ h : Heap} {L : Addr} {l l' : Led} (N : News h₀ L h l) (p : l'.Perm l) : News h₀ L h l' := fun q hq => N q (p.mem_iff.mp hq)

section
variable {g : Gl} {C : Cx} {Y : Led} {Z : Fz} {W : List Ent} {σ : St} {h h' : Heap} {mF : Str → Option Value} {kd Cs : Led}

theorem RelM.keeps (r : RelM g C Y Z W σ h mF kd Cs) (hk : ∀ b o, h.get? b = some o → h'.get? b = some o) : RelM g C Y Z W σ h' mF kd Cs :=
  ⟨r.fr.keeps hk, r.nw.keepsAll hk, r.nd, r.lo, r.or⟩
theorem Rel.keeps (r : Rel g C Y Z W σ h) (hk : ∀ b o, h.get? b = some o → h'.get? b = some o) : Rel g C Y Z W σ h' := let ⟨a, b, c, x⟩ := r; ⟨a, b, c, x.keeps hk⟩

theorem RelM.fresh (r : RelM g C Y Z W σ h mF kd Cs) {a : Addr} (hn : h.get? a = none) : a ≠ C.L ∧ C.h₀.get? a = none ∧ ∀ p ∈ ledger kd Cs Y Z W, p.1 ≠ a := by
  obtain ⟨oL, _, _, hL, _⟩ := r.fr.ns
  refine ⟨fun e => ?_, ?_, fun p hp e => ?_⟩
  · rw [e, hL] at hn; cases hn
  · cases q : C.h₀.get? a with
    | none => rfl
    | some o => have := r.fr.keep _ _ q; rw [hn] at this; cases this
  · have := (r.nw p hp).1
    rw [e, hn] at this; cases this

theorem RelM.news1 (r : RelM g C Y Z W σ h mF kd Cs) {a : Addr} {o : Obj} (hk : ∀ b o, h.get? b = some o → h'.get? b = some o) (hn : h.get? a = none) (ho : h'.get? a = some o) : News C.h₀ C.L h' ((a, o) :: ledger kd Cs Y Z W) := by
  obtain ⟨h1, h2, _⟩ := r.fresh hn
  intro p hp
  rcases List.mem_cons.mp hp with rfl | hp
  · exact ⟨ho, h1, h2⟩
  · exact r.nw.keepsAll hk p hp

/-- a new frozen object -/
theorem RelM.newZ (r : RelM g C Y Z W σ h mF kd Cs) {a : Addr} {o : Obj} (hk : ∀ b o, h.get? b = some o → h'.get? b = some o) (hn : h.get? a = none) (ho : h'.get? a = some o) :
    RelM g C Y ⟨(a, o) :: Z.z, Z.d⟩ W σ h' mF kd Cs ∧ FLe Z ⟨(a, o) :: Z.z, Z.d⟩ := by
  have f : FLe Z ⟨(a, o) :: Z.z, Z.d⟩ := ⟨fun q hq => .tail _ hq, fun _ es n hq => ⟨es, n, hq, DS.refl es⟩⟩
  refine ⟨⟨r.fr.keeps hk, newsPerm (r.news1 hk hn ho) (ledger_z _), ?_, r.lo.mono f (fun _ _ e => e), r.or.mono f (fun _ _ e => e)⟩, f⟩
  rw [((ledger_z (a, o)).map (·.1)).nodup_iff, List.map_cons, List.nodup_cons]
  refine ⟨fun hm => ?_, r.nd⟩
  obtain ⟨p, hp, e⟩ := List.mem_map.mp hm
  exact (r.fresh hn).2.2 p hp e

/-- a new mutable object -/
theorem RelM.newW (r : RelM g C Y Z W σ h mF kd Cs) {a : Addr} {o : Obj} {x : HO} (hk : ∀ b o, h.get? b = some o → h'.get? b = some o) (hn : h.get? a = none) (ho : h'.get? a = some o)
    (hx : OR g Z (adr W ++ [a]) x ⟨a, [(a, o)]⟩) : RelM g C Y Z (W ++ [⟨a, [(a, o)]⟩]) { σ with heap := σ.heap ++ [x] } h' mF kd Cs := by
  have hg : ∀ (i : Nat) (b : Addr), (adr W)[i]? = some b → (adr (W ++ [⟨a, [(a, o)]⟩]))[i]? = some b := fun i b e => by rw [adr_append]; exact PLe.get ⟨_, rfl⟩ e
  refine ⟨r.fr.keeps hk, ?_, ?_, r.lo.mono (FLe.refl _) hg, ?_⟩
  · rw [ledger_w]; exact newsPerm (r.news1 hk hn ho) List.perm_append_comm
  · rw [ledger_w, List.map_append, List.nodup_append]
    refine ⟨r.nd, by simp, fun b hb c hc => ?_⟩
    obtain ⟨p, hp, rfl⟩ := List.mem_map.mp hb
    simp only [List.map_cons, List.map_nil, List.mem_singleton] at hc
    rw [hc]; exact (r.fresh hn).2.2 p hp
  · have z := r.or.mono (FLe.refl Z) hg
    rw [adr_append] at z ⊢
    have : ∀ {xs : List HO} {es : List Ent}, ORs g Z (adr W ++ adr [⟨a, [(a, o)]⟩]) xs es → ORs g Z (adr W ++ adr [⟨a, [(a, o)]⟩]) (xs ++ [x]) (es ++ [⟨a, [(a, o)]⟩]) := by
      intro xs es q
      induction q with
      | nil => exact .cons hx .nil
      | cons q _ ih => exact .cons q ih
    exact this z

theorem ORs.get {Z : Fz} {φ : List Addr} : ∀ {xs : List HO} {es : List Ent} {i : Nat} {x : HO}, ORs g Z φ xs es → xs[i]? = some x → ∃ e, es[i]? = some e ∧ OR g Z φ x e
  | _, _, _, _, .nil, h => by simp at h
  | _, _, 0, _, .cons a _, h => by cases h; exact ⟨_, rfl, a⟩
  | _, _, i + 1, _, .cons _ r, h => by
    obtain ⟨v, h1, h2⟩ := ORs.get (i := i) r (by simpa using h)
    exact ⟨v, by simpa using h1, h2⟩
theorem ORs.set {Z : Fz} {φ : List Addr} {x : HO} {e : Ent} (h : OR g Z φ x e) : ∀ (i : Nat) {xs : List HO} {es : List Ent}, ORs g Z φ xs es → ORs g Z φ (xs.set i x) (es.set i e)
  | _, _, _, .nil => by simpa using ORs.nil
  | 0, _, _, .cons _ r => .cons h r
  | i + 1, _, _, .cons a r => .cons a (ORs.set h i r)
theorem ORs.len {Z : Fz} {φ : List Addr} {xs : List HO} {es : List Ent} (h : ORs g Z φ xs es) : xs.length = es.length := by
  induction h with
  | nil => rfl
  | cons _ _ ih => rw [List.length_cons, List.length_cons, ih]

/-- the i-th mutable object's ledger entry d is now o' -/
theorem RelM.upd' (r : RelM g C Y Z W σ h mF kd Cs) {i : Nat} {e e' : Ent} {pre post : Led} {d : Addr} {o o' : Obj} {x' : HO} (hi : W[i]? = some e) (ho : e.own = pre ++ (d, o) :: post) (ha : e'.a = e.a) (ho' : e'.own = pre ++ (d, o') :: post)
    (F : Fr C.h₀ C.L h' mF) (N : ∀ P S, ledger kd Cs Y Z W = P ++ (d, o) :: S → News C.h₀ C.L h' (P ++ (d, o') :: S)) (hx : OR g Z (adr W) x' e') :
    RelM g C Y Z (W.set i e') { σ with heap := σ.heap.set i x' } h' mF kd Cs := by
  obtain ⟨P, S, l1, l2⟩ := ledger_at (kd := kd) (Cs := Cs) (Y := Y) (Z := Z) hi ho
  refine ⟨F, by rw [l2 o' e' ho']; exact N P S l1, ?_, ?_, ?_⟩
  · have nd := r.nd
    rw [l1] at nd
    rw [l2 o' e' ho']; exact (nodup_split nd).2.2 o'
  · rw [adr_set hi ha]; exact r.lo
  · rw [adr_set hi ha]; exact r.or.set hx i
theorem RelM.upd (r : RelM g C Y Z W σ h mF kd Cs) {i : Nat} {e e' : Ent} {pre post : Led} {d : Addr} {o o' : Obj} {x' : HO} (hi : W[i]? = some e) (ho : e.own = pre ++ (d, o) :: post) (ha : e'.a = e.a) (ho' : e'.own = pre ++ (d, o') :: post)
    (hs : Heap.SameBut d h h') (hg : h'.get? d = some o') (hx : OR g Z (adr W) x' e') : RelM g C Y Z (W.set i e') { σ with heap := σ.heap.set i x' } h' mF kd Cs := by
  obtain ⟨P, S, l1, _⟩ := ledger_at (kd := kd) (Cs := Cs) (Y := Y) (Z := Z) hi ho
  have n := r.nw (d, o) (by rw [l1]; exact List.mem_append_right _ (.head _))
  refine r.upd' hi ho ha ho' (r.fr.change hs n.2.1 n.2.2) (fun P S l => ?_) hx
  have nd := r.nd
  rw [l] at nd
  have sp := nodup_split nd
  have nw := r.nw
  rw [l] at nw
  exact PySem.W.news_set nw sp.1 sp.2.1 hs hg

/-- look at a list, frozen or not -/
noncomputable def lstOf (σ : St) : AV → Option (List AV)
  | .f (.lst xs) => some (xs.map .f)
  | .ref i => match σ.heap[i]? with
    | some (.lst xs) => some xs
    | _ => none
  | _ => none
theorem RelM.mem_z (r : RelM g C Y Z W σ h mF kd Cs) {q : Addr × Obj} (hq : q ∈ Z.z) : h.get? q.1 = some q.2 :=
  (r.nw q (by unfold ledger; simp only [List.mem_append]; exact .inr (.inr (.inr (.inl hq))))).1
theorem RelM.mem_d (r : RelM g C Y Z W σ h mF kd Cs) {q : Addr × Obj} (hq : q ∈ Z.d) : h.get? q.1 = some q.2 :=
  (r.nw q (by unfold ledger; simp only [List.mem_append]; exact .inr (.inr (.inr (.inr (.inl hq)))))).1
theorem RelM.mem_w (r : RelM g C Y Z W σ h mF kd Cs) {i : Nat} {e : Ent} {q : Addr × Obj} (hi : W[i]? = some e) (hq : q ∈ e.own) : q ∈ ledger kd Cs Y Z W := by
  unfold ledger led; simp only [List.mem_append, List.mem_flatMap]; exact .inr (.inr (.inr (.inr (.inr ⟨e, List.mem_of_getElem? hi, hq⟩))))
theorem RelM.list (r : RelM g C Y Z W σ h mF kd Cs) {x : AV} {xs : List AV} {v : Value} (hx : lstOf σ x = some xs) (hv : VR g.prog g.w Z (adr W) x v) : ∃ a vs o, v = .ref a ∧ h.get? a = some o ∧ LO o vs ∧ VRs g.prog g.w Z (adr W) xs vs := by
  cases hv with
  | f hf =>
    cases hf with
    | lst hz l rs => cases hx; exact ⟨_, _, _, rfl, r.mem_z hz, l, rs.vrs⟩
    | _ => cases hx
  | ref hi =>
    unfold lstOf at hx
    dsimp only at hx
    split at hx
    · rename_i hj
      injection hx with hx; subst hx
      obtain ⟨e, he, oe⟩ := r.or.get hj
      cases oe with
      | lst l rs =>
        have := (adr_get he).symm.trans hi
        cases this
        exact ⟨_, _, _, rfl, (r.nw _ (r.mem_w he (.head _))).1, l, rs⟩
    · cases hx
end


noncomputable def Slot.nm : Slot → Str
  | .l x => x
  | .c x _ => x
  | .d x _ => x

structure Ok (g : Gl) (C : Cx) (n : Nat) : Prop where
  B : Below C.A₀ C.base C.outer C.h₀
  X : g.K.In C.h₀
  T : Top g.p g.loose g.mean g.mg g.mb C.h₀
  fr : C.A.frames = some (C.fenv :: C.outer)
  fL : C.fenv.frame = some C.L
  fk : C.fenv.scope.kind = .function
  hh : C.A.handled = none
  ek : C.env.scope.kind = .function
  eg : C.env.globals = mainGlobals
  eb : C.env.builtins = builtinsNs
  el : C.env.locals = (match C.mode with | .fn => C.L | .cp Lc _ => Lc)
  ef : C.env.frame = some C.L
  kl : ∀ x, .l x ∈ C.slots → C.env.kindOf x = some .local
  kc : ∀ x a, .c x a ∈ C.slots → C.env.kindOf x = some .cell ∧ C.env.cells.lookup x = some a
  nd : (C.slots.map (·.nm)).Nodup
  rd : C.A.depth + 2 * n < recursionLimit
  ru : C.A.units + 8 * n < cLine

/-- the name x is bound to v -/
inductive Load : List Slot → List (Option AV) → Str → AV → Prop
  | l {x : Str} {v : AV} {ss : List Slot} {us : List (Option AV)} : Load (.l x :: ss) (some v :: us) x v
  | c {x : Str} {a : Addr} {v : AV} {ss : List Slot} {us : List (Option AV)} : Load (.c x a :: ss) (some v :: us) x v
  | tl {s : Slot} {u : Option AV} {x : Str} {v : AV} {ss : List Slot} {us : List (Option AV)} : Load ss us x v → Load (s :: ss) (u :: us) x v
/-- binding x to v -/
inductive Store : List Slot → List (Option AV) → Str → Option AV → List (Option AV) → Prop
  | l {x : Str} {v u : Option AV} {ss : List Slot} {us : List (Option AV)} : Store (.l x :: ss) (u :: us) x v (v :: us)
  | c {x : Str} {a : Addr} {v u : Option AV} {ss : List Slot} {us : List (Option AV)} : Store (.c x a :: ss) (u :: us) x v (v :: us)
  | tl {s : Slot} {u : Option AV} {x : Str} {v : Option AV} {ss : List Slot} {us us' : List (Option AV)} : Store ss us x v us' → Store (s :: ss) (u :: us) x v (u :: us')

theorem Load.sr {g : Gl} {Z : Fz} {φ : List Addr} {m : Str → Option Value} {ss : List Slot} {us : List (Option AV)} {Cs : Led} {x : Str} {v : AV} (k : Load ss us x v) (r : SR g Z φ m ss us Cs) :
    (.l x ∈ ss ∧ ∃ u, m x = some u ∧ VR g.prog g.w Z φ v u) ∨ (∃ a o u, .c x a ∈ ss ∧ (a, o) ∈ Cs ∧ o.data = .cell (some u) ∧ VR g.prog g.w Z φ v u) := by
  induction k generalizing Cs with
  | l =>
    cases r with | l h _ =>
    obtain ⟨u, e, h⟩ := h.get
    exact .inl ⟨.head _, u, e, h⟩
  | c =>
    cases r with | c d h _ =>
    obtain ⟨u, rfl, h⟩ := h.get
    exact .inr ⟨_, _, u, .head _, .head _, d, h⟩
  | tl _ ih =>
    obtain ⟨_, _, pre, _, e, rfl, r, _⟩ := r.tl
    injection e with _ e
    subst e
    rcases ih r with ⟨h1, h2⟩ | ⟨a, o, u, h1, h2, h3⟩
    · exact .inl ⟨.tail _ h1, h2⟩
    · exact .inr ⟨a, o, u, .tail _ h1, List.mem_append_right _ h2, h3⟩

noncomputable def val0 {α : Type} (t : Sem α) : List Value → Sem α := fun _ => t
noncomputable def val1 {α : Type} (f : Value → Sem α) : List Value → Sem α
  | [a] => f a
  | _ => unsupported ""
noncomputable def val2 {α : Type} (f : Value → Value → Sem α) : List Value → Sem α
  | [a, b] => f a b
  | _ => unsupported ""

/-- a computation over held values -/
noncomputable def AWh (g : Gl) (C : Cx) (X : XC) {α β : Type} (R : Fz → List Addr → β → α → Prop) (xs : List AV) (f : List Value → Sem α) (Q : β → St → Prop) (σ : St) : Prop :=
  ∀ Y Z W h tk, Rel g C Y Z W σ h → ∀ vs, VRs g.prog g.w Z (adr W) xs vs → ∀ (Qc : α → Shared → Prop) (Ec : Value → Shared → Prop),
    Kq g C Y Z W R Q Qc → Ke X Y Z Ec → wpAny (model g.prog g.w) C.A (f vs) Qc Ec (g.mk' h tk)

theorem VR.up {g : Gl} {Z Z' : Fz} {W W' : List Ent} {x : AV} {v : Value} (h : VR g.prog g.w Z (adr W) x v) (f : FLe Z Z') (p : PLe (adr W) (adr W')) : VR g.prog g.w Z' (adr W') x v := VR.mono f (fun _ _ e => p.get e) h
theorem VRs.up {g : Gl} {Z Z' : Fz} {W W' : List Ent} {x : List AV} {v : List Value} (h : VRs g.prog g.w Z (adr W) x v) (f : FLe Z Z') (p : PLe (adr W) (adr W')) : VRs g.prog g.w Z' (adr W') x v := VRs.mono f (fun _ _ e => p.get e) h

section
variable {g : Gl} {C : Cx} {X : XC} {σ : St} {n : Nat} {α β : Type} {R : Fz → List Addr → β → α → Prop}

theorem AWh.mono {xs : List AV} {f : List Value → Sem α} {Q Q' : β → St → Prop} (h : AWh g C X R xs f Q σ) (k : ∀ b s, Q b s → Q' b s) : AWh g C X R xs f Q' σ :=
  fun Y Z W hh tk r vs hv Qc Ec q e => h Y Z W hh tk r vs hv Qc Ec (fun b σ' v Z' W' h' tk' x => q b σ' v Z' W' h' tk' (k _ _ x)) e

/-- something that only grows the heap -/
theorem AWg.here {t : Sem α} {Q : β → St → Prop} {b : β} (hq : Q b σ)
    (h : ∀ Y Z W hh tk, Rel g C Y Z W σ hh → ∀ (Qc : α → Shared → Prop) (Ec : Value → Shared → Prop), (∀ v h' tk', (∀ a o, hh.get? a = some o → h'.get? a = some o) → R Z (adr W) b v → Qc v (g.mk' h' tk')) → wpAny (model g.prog g.w) C.A t Qc Ec (g.mk' hh tk)) : AWg g C X R t Q σ :=
  fun Y Z W hh tk r Qc Ec q _ => h Y Z W hh tk r Qc Ec fun v h' tk' hk hr => q b σ v Z W h' tk' hq (r.keeps hk) (FLe.refl Z) (PLe.refl _) hr
theorem AWh.here {xs : List AV} {f : List Value → Sem α} {Q : β → St → Prop} {b : β} (hq : Q b σ)
    (h : ∀ Y Z W hh tk, Rel g C Y Z W σ hh → ∀ vs, VRs g.prog g.w Z (adr W) xs vs → ∀ (Qc : α → Shared → Prop) (Ec : Value → Shared → Prop), (∀ v h' tk', (∀ a o, hh.get? a = some o → h'.get? a = some o) → R Z (adr W) b v → Qc v (g.mk' h' tk')) → wpAny (model g.prog g.w) C.A (f vs) Qc Ec (g.mk' hh tk)) : AWh g C X R xs f Q σ :=
  fun Y Z W hh tk r vs hv Qc Ec q _ => h Y Z W hh tk r vs hv Qc Ec fun v h' tk' hk hr => q b σ v Z W h' tk' hq (r.keeps hk) (FLe.refl Z) (PLe.refl _) hr

theorem R_int {i : Int} {k : Nat} {pos : Pos} {Q : AV → St → Prop} (h : Q (.int i) σ) : AW g C X (eval (.Constant (.int i) k pos) C.env) Q σ :=
  AWg.here h fun Y Z W hh tk r Qc Ec q => wpAny_Constant_int (q _ _ _ (fun _ _ e => e) (.f .int))
theorem R_str {x : Str} {k : Nat} {pos : Pos} {Q : AV → St → Prop} (h : Q (.str x) σ) : AW g C X (eval (.Constant (.str x) k pos) C.env) Q σ :=
  AWg.here h fun Y Z W hh tk r Qc Ec q => wpAny_mkText (q (.str x tk) hh (tk + 1) (fun _ _ e => e) (.f .str))
theorem R_none {k : Nat} {pos : Pos} {Q : AV → St → Prop} (h : Q .none σ) : AW g C X (eval (.Constant .none k pos) C.env) Q σ :=
  AWg.here h fun Y Z W hh tk r Qc Ec q => wpAny_pure (q _ _ _ (fun _ _ e => e) (.f .none))
theorem R_bool {b : Bool} {k : Nat} {pos : Pos} {Q : AV → St → Prop} (h : Q (.bool b) σ) : AW g C X (eval (.Constant (.bool b) k pos) C.env) Q σ :=
  AWg.here h fun Y Z W hh tk r Qc Ec q => wpAny_pure (q _ _ _ (fun _ _ e => e) (.f .bool))

theorem RelM.ns {Y : Led} {Z : Fz} {W : List Ent} {h : Heap} {mF : Str → Option Value} {kd Cs : Led} (ok : Ok g C n) (r : RelM g C Y Z W σ h mF kd Cs) : ∃ m, h.Ns C.env.locals m ∧ SR g Z (adr W) m C.slots σ.loc Cs := by
  have lo := r.lo
  have el := ok.el
  unfold Loc at lo
  generalize hm : C.mode = md at lo el
  cases md with
  | fn => dsimp only at el lo; rw [el]; exact ⟨mF, r.fr.ns, lo.2⟩
  | cp Lc m₀ =>
    dsimp only at el lo
    obtain ⟨_, o, m, h2, h3, h4⟩ := lo
    rw [el]
    refine ⟨m, h3.ns (r.nw (Lc, o) ?_).1, h4⟩
    unfold ledger; rw [h2]; exact .head _

theorem R_loc {x : Str} {pos : Pos} {v : AV} {Q : AV → St → Prop} (ok : Ok g C n) (hl : Load C.slots σ.loc x v) (h : Q v σ) (hd : (x == ("__debug__" : Str)) = false := by decide) : AW g C X (eval (.Name x pos) C.env) Q σ :=
  AWg.here h fun Y Z W hh tk r Qc Ec q => by
    obtain ⟨mF, kd, Cs, r⟩ := r
    obtain ⟨m, hn, sr⟩ := r.ns ok
    rcases hl.sr sr with ⟨h1, u, h2, h3⟩ | ⟨a, o, u, h1, h2, h3, h4⟩
    · exact wpAny_Name (wpAny_loadName_local ok.ek (ok.kl _ h1) hn h2 (q u hh tk (fun _ _ e => e) h3)) hd
    · obtain ⟨k1, k2⟩ := ok.kc _ _ h1
      have : hh.IsCell a (some u) := ⟨o, (r.nw (a, o) (by unfold ledger; simp only [List.mem_append]; exact .inr (.inl h2))).1, h3⟩
      exact wpAny_Name (wpAny_loadName_cell ok.ek k1 k2 this (q u hh tk (fun _ _ e => e) h4)) hd

theorem R_glob {x : Str} {pos : Pos} {v : Value} {Q : AV → St → Prop} (ok : Ok g C n) (e : nsIn g.K mainGlobals x = some (some v)) (h : Q (.cst v) σ) (hv : handedIn v = true := by rfl)
    (hx : C.env.kindOf x = some .globalImplicit := by rfl) (hd : (x == ("__debug__" : Str)) = false := by decide) : AW g C X (eval (.Name x pos) C.env) Q σ :=
  AWg.here h fun Y Z W hh tk r Qc Ec q => by
    obtain ⟨mF, kd, Cs, r⟩ := r
    exact nameG_K r.fr ok.X (topRead_of ok.T) e (q v hh tk (fun _ _ e => e) (.f (.cst hv))) ok.eg ok.ek hx hd
theorem R_bi {x : Str} {pos : Pos} {v : Value} {Q : AV → St → Prop} (ok : Ok g C n) (e : nsIn g.K mainGlobals x = some none) (hb : bootBuiltins x = some v) (h : Q (.cst v) σ) (hne : x ≠ "__name__" := by decide) (hv : handedIn v = true := by rfl)
    (hx : C.env.kindOf x = some .globalImplicit := by rfl) (hd : (x == ("__debug__" : Str)) = false := by decide) : AW g C X (eval (.Name x pos) C.env) Q σ :=
  AWg.here h fun Y Z W hh tk r Qc Ec q => by
    obtain ⟨mF, kd, Cs, r⟩ := r
    have T := topRead_of ok.T
    exact Name_function_global ok.ek hx (loadGlobal_builtin (by rw [ok.eg]; exact T.g.keeps r.fr.keep) (mg_none_of ok.X T.g e) (by rw [ok.eb]; exact T.b.keeps r.fr.keep) ((T.builtins x hne).trans hb) (q v hh tk (fun _ _ e => e) (.f (.cst hv)))) hd

theorem R_binop {l r : Expr} {op : Operator} {pos : Pos} {Q : AV → St → Prop}
    (h : AW g C X (eval l C.env) (fun a σ₁ => AW g C X (eval r C.env) (fun b σ₂ => AWh g C X (VR g.prog g.w) [a, b] (val2 (binaryOp op)) Q σ₂) σ₁) σ) : AW g C X (eval (.BinOp l op r pos) C.env) Q σ := by
  intro Y Z W hh tk rr Qc Ec q e
  refine wpAny_BinOp (h Y Z W hh tk rr _ Ec (fun a σ₁ v₁ Z₁ W₁ h₁ t₁ p₁ r₁ f₁ w₁ x₁ => ?_) e)
  refine p₁ Y Z₁ W₁ h₁ t₁ r₁ _ Ec (fun b σ₂ v₂ Z₂ W₂ h₂ t₂ p₂ r₂ f₂ w₂ x₂ => ?_) fun e' s' z => e e' s' (X.mono f₁ z)
  exact p₂ Y Z₂ W₂ h₂ t₂ r₂ [v₁, v₂] (.cons (x₁.up f₂ w₂) (.cons x₂ .nil)) Qc Ec (fun b σ' v Z' W' h' tk' hq r' f' w' x' => q b σ' v Z' W' h' tk' hq r' ((f₁.trans f₂).trans f') ((w₁.trans w₂).trans w') x') fun e' s' z => e e' s' (X.mono (f₁.trans f₂) z)

theorem R_cmp {l r : Expr} {op : CmpOp} {pos : Pos} {Q : AV → St → Prop}
    (h : AW g C X (eval l C.env) (fun a σ₁ => AW g C X (eval r C.env) (fun b σ₂ => AWh g C X (VR g.prog g.w) [a, b] (val2 (compareOp op)) Q σ₂) σ₁) σ) (hm : behindInMarks op r = false := by with_unfolding_all rfl) :
    AW g C X (eval (.Compare l [op] [r] pos) C.env) Q σ := by
  intro Y Z W hh tk rr Qc Ec q e
  refine wpAny_Compare1 (h Y Z W hh tk rr _ Ec (fun a σ₁ v₁ Z₁ W₁ h₁ t₁ p₁ r₁ f₁ w₁ x₁ => ?_) e) hm
  refine p₁ Y Z₁ W₁ h₁ t₁ r₁ _ Ec (fun b σ₂ v₂ Z₂ W₂ h₂ t₂ p₂ r₂ f₂ w₂ x₂ => ?_) fun e' s' z => e e' s' (X.mono f₁ z)
  exact p₂ Y Z₂ W₂ h₂ t₂ r₂ [v₁, v₂] (.cons (x₁.up f₂ w₂) (.cons x₂ .nil)) Qc Ec (fun b σ' v Z' W' h' tk' hq r' f' w' x' => q b σ' v Z' W' h' tk' hq r' ((f₁.trans f₂).trans f') ((w₁.trans w₂).trans w') x') fun e' s' z => e e' s' (X.mono (f₁.trans f₂) z)

/-- inversion of held atoms -/
theorem vrs2 {Z : Fz} {φ : List Addr} {a b : AV} {vs : List Value} (h : VRs g.prog g.w Z φ [a, b] vs) : ∃ v u, vs = [v, u] ∧ VR g.prog g.w Z φ a v ∧ VR g.prog g.w Z φ b u := by
  cases h with | cons h1 r => cases r with | cons h2 r => cases r; exact ⟨_, _, rfl, h1, h2⟩
theorem vrs1 {Z : Fz} {φ : List Addr} {a : AV} {vs : List Value} (h : VRs g.prog g.w Z φ [a] vs) : ∃ v, vs = [v] ∧ VR g.prog g.w Z φ a v := by
  cases h with | cons h1 r => cases r; exact ⟨_, rfl, h1⟩
theorem vr_int {Z : Fz} {φ : List Addr} {i : Int} {v : Value} (h : VR g.prog g.w Z φ (.int i) v) : ∃ t, v = .int i t := by cases h with | f h => cases h; exact ⟨_, rfl⟩
theorem vr_str {Z : Fz} {φ : List Addr} {i : Str} {v : Value} (h : VR g.prog g.w Z φ (.str i) v) : ∃ t, v = .str i t := by cases h with | f h => cases h; exact ⟨_, rfl⟩
theorem vr_none {Z : Fz} {φ : List Addr} {v : Value} (h : VR g.prog g.w Z φ .none v) : v = .none := by cases h with | f h => cases h; rfl
theorem vr_bool {Z : Fz} {φ : List Addr} {b : Bool} {v : Value} (h : VR g.prog g.w Z φ (.bool b) v) : v = .bool b := by cases h with | f h => cases h; rfl
theorem vr_cst {Z : Fz} {φ : List Addr} {u v : Value} (h : VR g.prog g.w Z φ (.cst u) v) : v = u := by cases h with | f h => cases h; rfl

/-- a step over two ints that makes no object -/
theorem H_ii {f : Value → Value → Sem α} {i j : Int} {Q : β → St → Prop} {b : β} (hq : Q b σ)
    (h : ∀ t u s (Qc : α → Shared → Prop) (Ec : Value → Shared → Prop), (∀ v tk, (∀ Z φ, R Z φ b v) → Qc v { s with toks := tk }) → wpAny (model g.prog g.w) C.A (f (.int i t) (.int j u)) Qc Ec s) : AWh g C X R [.int i, .int j] (val2 f) Q σ :=
  AWh.here hq fun Y Z W hh tk r vs hv Qc Ec q => by
    obtain ⟨v, u, rfl, h1, h2⟩ := vrs2 hv
    obtain ⟨t, rfl⟩ := vr_int h1
    obtain ⟨t', rfl⟩ := vr_int h2
    exact h t t' _ Qc Ec fun v tk' hr => q v hh tk' (fun _ _ e => e) (hr _ _)
theorem B_add {i j : Int} {Q : AV → St → Prop} (h : Q (.int (i + j)) σ) : AWh g C X (VR g.prog g.w) [.int i, .int j] (val2 (binaryOp .Add)) Q σ :=
  H_ii h fun t u s Qc Ec q => P.add_int (q _ _ fun _ _ => .f .int)
theorem B_sub {i j : Int} {Q : AV → St → Prop} (h : Q (.int (i - j)) σ) : AWh g C X (VR g.prog g.w) [.int i, .int j] (val2 (binaryOp .Sub)) Q σ :=
  H_ii h fun t u s Qc Ec q => P.sub_int (q _ _ fun _ _ => .f .int)
theorem B_mod {i j : Int} {Q : AV → St → Prop} (hj : j ≠ 0) (h : Q (.int (i.fmod j)) σ) : AWh g C X (VR g.prog g.w) [.int i, .int j] (val2 (binaryOp .Mod)) Q σ :=
  H_ii h fun t u s Qc Ec q => mod_int' hj (q _ _ fun _ _ => .f .int)
theorem C_eqi {i j : Int} {Q : AV → St → Prop} (h : Q (.bool (i == j)) σ) : AWh g C X (VR g.prog g.w) [.int i, .int j] (val2 (compareOp .Eq)) Q σ :=
  H_ii h fun t u s Qc Ec q => P.eq_int (q _ s.toks fun _ _ => .f .bool)
theorem C_nei {i j : Int} {Q : AV → St → Prop} (h : Q (.bool (i != j)) σ) : AWh g C X (VR g.prog g.w) [.int i, .int j] (val2 (compareOp .NotEq)) Q σ :=
  H_ii h fun t u s Qc Ec q => P.ne_int (q _ s.toks fun _ _ => .f .bool)
theorem C_lti {i j : Int} {Q : AV → St → Prop} (h : Q (.bool (decide (i < j))) σ) : AWh g C X (VR g.prog g.w) [.int i, .int j] (val2 (compareOp .Lt)) Q σ :=
  H_ii h fun t u s Qc Ec q => lt_int (q _ s.toks fun _ _ => .f .bool)
theorem C_gti {i j : Int} {Q : AV → St → Prop} (h : Q (.bool (decide (j < i))) σ) : AWh g C X (VR g.prog g.w) [.int i, .int j] (val2 (compareOp .Gt)) Q σ :=
  H_ii h fun t u s Qc Ec q => gt_int (q _ s.toks fun _ _ => .f .bool)
end


theorem SR.congr {g : Gl} {Z : Fz} {φ : List Addr} {m m' : Str → Option Value} {ss : List Slot} {us : List (Option AV)} {Cs : Led} (k : ∀ y, .l y ∈ ss → m y = m' y) (r : SR g Z φ m ss us Cs) : SR g Z φ m' ss us Cs := r.map' (fun _ _ _ o => o) k
theorem Store.sr {g : Gl} {Z : Fz} {φ : List Addr} {m : Str → Option Value} {x : Str} {v : AV} {u : Value} (hv : VR g.prog g.w Z φ v u) {ss : List Slot} {us us' : List (Option AV)} {Cs : Led} (k : Store ss us x (some v) us') (r : SR g Z φ m ss us Cs) (nd : (ss.map (·.nm)).Nodup) :
    (.l x ∈ ss ∧ SR g Z φ (fun y => if y = x then some u else m y) ss us' Cs) ∨
    (∃ a o ov P S, .c x a ∈ ss ∧ Cs = P ++ (a, o) :: S ∧ o.data = .cell ov ∧ ∀ o', o'.data = .cell (some u) → SR g Z φ m ss us' (P ++ (a, o') :: S)) := by
  generalize e : some v = w at k
  induction k generalizing Cs with
  | l =>
    subst e
    cases r with | l h r =>
    refine .inl ⟨.head _, .l (if_pos rfl ▸ hv) (r.congr fun y hy => (if_neg ?_).symm)⟩
    rintro rfl
    exact absurd (List.mem_map.mpr ⟨_, hy, rfl⟩) (List.nodup_cons.mp nd).1
  | c =>
    subst e
    cases r with | c d h r => exact .inr ⟨_, _, _, [], _, .head _, rfl, d, fun o' d' => .c d' hv r⟩
  | tl _ ih =>
    obtain ⟨_, _, pre, _, e', rfl, r, k⟩ := r.tl
    injection e' with e1 e'
    subst e1 e'
    have nd := List.nodup_cons.mp nd
    rcases ih r nd.2 e with ⟨h1, h2⟩ | ⟨a, o, ov, P, S, h1, h2, h3, h4⟩
    · refine .inl ⟨.tail _ h1, k _ _ _ (fun y hy => (if_neg ?_).symm) h2⟩
      rintro rfl
      exact nd.1 (List.mem_map.mpr ⟨_, h1, by rw [hy]⟩)
    · exact .inr ⟨a, o, ov, pre ++ P, S, .tail _ h1, by rw [h2, List.append_assoc], h3, fun o' d' => by rw [List.append_assoc]; exact k _ _ _ (fun _ _ => rfl) (h4 o' d')⟩

section
variable {g : Gl} {C : Cx} {X : XC} {σ : St} {n : Nat} {α β : Type} {R : Fz → List Addr → β → α → Prop}
  {Y : Led} {Z : Fz} {W : List Ent} {h h' : Heap} {mF : Str → Option Value} {kd Cs : Led}

theorem RelM.swap (r : RelM g C Y Z W σ h mF kd Cs) {P S : Led} {d : Addr} {o o' : Obj} (hl : ledger kd Cs Y Z W = P ++ (d, o) :: S) (hs : Heap.SameBut d h h') (hg : h'.get? d = some o') :
    Fr C.h₀ C.L h' mF ∧ News C.h₀ C.L h' (P ++ (d, o') :: S) ∧ ((P ++ (d, o') :: S).map (·.1)).Nodup := by
  have nd := r.nd
  have nw := r.nw
  rw [hl] at nd nw
  have sp := nodup_split nd
  have q := nw (d, o) (List.mem_append_right _ (.head _))
  exact ⟨r.fr.change hs q.2.1 q.2.2, PySem.W.news_set nw sp.1 sp.2.1 hs hg, sp.2.2 o'⟩

/-- storing a name -/
theorem store_name {x : Str} {v : AV} {u : Value} {loc' : List (Option AV)} {tk : Nat} {Q : Unit → Shared → Prop} {E : Value → Shared → Prop} (ok : Ok g C n) (r : Rel g C Y Z W σ h) (hs : Store C.slots σ.loc x (some v) loc') (hv : VR g.prog g.w Z (adr W) v u)
    (k : ∀ h' tk', Rel g C Y Z W ⟨σ.heap, loc'⟩ h' → Q () (g.mk' h' tk')) : wpAny (model g.prog g.w) C.A (storeName C.env x u) Q E (g.mk' h tk) := by
  obtain ⟨mF, kd, Cs, r⟩ := r
  have lo := r.lo
  have el := ok.el
  have hk : (C.env.scope.kind == .class || (C.env.scope.kind == .module && C.env.locals != C.env.globals)) = false := by rw [ok.ek]; rfl
  have cell : ∀ {m : Str → Option Value} {a : Addr} {o : Obj} {ov : Option Value} {P S : Led}, .c x a ∈ C.slots → Cs = P ++ (a, o) :: S → o.data = .cell ov →
      (∀ o', o'.data = .cell (some u) → Loc g C Z (adr W) mF kd (P ++ (a, o') :: S) loc') → wpAny (model g.prog g.w) C.A (storeName C.env x u) Q E (g.mk' h tk) := by
    intro m a o ov P S h1 h2 h3 h4
    obtain ⟨k1, k2⟩ := ok.kc _ _ h1
    have hl : ledger kd Cs Y Z W = (kd ++ P) ++ (a, o) :: (S ++ (Y ++ (Z.z ++ (Z.d ++ led W)))) := by unfold ledger; rw [h2]; simp
    have hc : h.IsCell a ov := ⟨o, (r.nw (a, o) (by rw [hl]; exact List.mem_append_right _ (.head _))).1, h3⟩
    refine wpAny_storeName_cell ok.ek k1 k2 hc fun h' hc' hs' => ?_
    obtain ⟨o', ho', hd'⟩ := hc'
    obtain ⟨F, N, D⟩ := r.swap hl hs' ho'
    have hl' : ledger kd (P ++ (a, o') :: S) Y Z W = (kd ++ P) ++ (a, o') :: (S ++ (Y ++ (Z.z ++ (Z.d ++ led W)))) := by unfold ledger; simp
    exact k h' tk ⟨mF, kd, P ++ (a, o') :: S, ⟨F, by rw [hl']; exact N, by rw [hl']; exact D, h4 o' hd', r.or⟩⟩
  unfold Loc at lo cell
  generalize hm : C.mode = md at lo el cell
  cases md with
  | fn =>
    dsimp only at lo el cell
    rcases hs.sr hv lo.2 ok.nd with ⟨h1, h2⟩ | ⟨a, o, ov, P, S, h1, h2, h3, h4⟩
    · refine wpAny_storeName_local (ok.kl _ h1) (by rw [el]; exact r.fr.ns) (fun h' hn hs' => ?_) hk
      rw [el] at hn hs'
      refine k h' _ ⟨_, kd, Cs, ⟨r.fr.set hn hs', r.nw.set hs', r.nd, ?_, r.or⟩⟩
      unfold Loc; rw [hm]; exact ⟨lo.1, h2⟩
    · exact cell (m := mF) h1 h2 h3 fun o' d' => ⟨lo.1, h4 o' d'⟩
  | cp Lc m₀ =>
    dsimp only at lo el cell
    obtain ⟨e1, o, m, e2, e3, e4⟩ := lo
    rcases hs.sr hv e4 ok.nd with ⟨h1, h2⟩ | ⟨a, o₂, ov, P, S, h1, h2, h3, h4⟩
    · have hl : ledger kd Cs Y Z W = [] ++ (Lc, o) :: (Cs ++ (Y ++ (Z.z ++ (Z.d ++ led W)))) := by unfold ledger; rw [e2]; rfl
      have ho := (r.nw (Lc, o) (by rw [hl]; exact .head _)).1
      refine wpAny_storeName_local (m := m) (ok.kl _ h1) (by rw [el]; exact e3.ns ho) (fun h' hn hs' => ?_) hk
      rw [el] at hn hs'
      obtain ⟨o', ho', hn'⟩ := NsO.of hn
      obtain ⟨F, N, D⟩ := r.swap hl hs' ho'
      refine k h' _ ⟨mF, [(Lc, o')], Cs, ⟨F, N, D, ?_, r.or⟩⟩
      unfold Loc; rw [hm]; exact ⟨e1, o', _, rfl, hn', h2⟩
    · exact cell (m := m) h1 h2 h3 fun o' d' => ⟨e1, o, m, e2, e3, h4 o' d'⟩

/-- what a suite ends in -/
inductive AF where
  | next
  | brk
  | cont
  | ret (v : AV)
inductive FR (g : Gl) (Z : Fz) (φ : List Addr) : AF → Flow → Prop
  | next : FR g Z φ .next .next
  | brk : FR g Z φ .brk .brk
  | cont : FR g Z φ .cont .cont
  | ret {v : AV} {u : Value} : VR g.prog g.w Z φ v u → FR g Z φ (.ret v) (.ret u)

noncomputable def Kx (g : Gl) (C : Cx) (Y : Led) (Z : Fz) (W : List Ent) (Q : AF → St → Prop) (Qc : Flow → Shared → Prop) : Prop :=
  ∀ b σ' v Z' W' h' tk', Q b σ' → Rel g C Y Z' W' σ' h' → FLe Z Z' → PC C (adr W) (adr W') → FR g Z' (adr W') b v → Qc v (g.mk' h' tk')
noncomputable def AX (g : Gl) (C : Cx) (X : XC) (t : Sem Flow) (Q : AF → St → Prop) (σ : St) : Prop :=
  ∀ Y Z W h tk, Rel g C Y Z W σ h → ∀ (Qc : Flow → Shared → Prop) (Ec : Value → Shared → Prop),
    Kx g C Y Z W Q Qc → Ke X Y Z Ec → wpAny (model g.prog g.w) C.A t Qc Ec (g.mk' h tk)

theorem AX.mono {t : Sem Flow} {Q Q' : AF → St → Prop} (h : AX g C X t Q σ) (k : ∀ b s, Q b s → Q' b s) : AX g C X t Q' σ :=
  fun Y Z W hh tk r Qc Ec q e => h Y Z W hh tk r Qc Ec (fun b σ' v Z' W' h' tk' x => q b σ' v Z' W' h' tk' (k _ _ x)) e

/-- what follows a statement -/
noncomputable def K' (g : Gl) (C : Cx) (X : XC) (rest : List Stmt) (Q : AF → St → Prop) (f : AF) (σ : St) : Prop := match f with
  | .next => AX g C X (execs rest C.env) Q σ
  | f => Q f σ

theorem X_nil {Q : AF → St → Prop} (h : Q .next σ) : AX g C X (execs [] C.env) Q σ :=
  fun Y Z W hh tk r Qc Ec q _ => wpAny_execs_nil (q .next σ .next Z W hh tk h r (FLe.refl Z) (PC.refl _) .next)
theorem X_cons {st : Stmt} {rest : List Stmt} {Q : AF → St → Prop} (h : AX g C X (exec st C.env) (K' g C X rest Q) σ) : AX g C X (execs (st :: rest) C.env) Q σ := by
  intro Y Z W hh tk r Qc Ec q e
  refine wpAny_execs_cons (h Y Z W hh tk r _ Ec (fun b σ₁ v Z₁ W₁ h₁ t₁ p₁ r₁ f₁ c₁ x₁ => ?_) e)
  cases x₁ with
  | next => exact p₁ Y Z₁ W₁ h₁ t₁ r₁ Qc Ec (fun b σ' v Z' W' h' tk' hq r' f' c' x' => q b σ' v Z' W' h' tk' hq r' (f₁.trans f') (c₁.trans c') x') fun e' s' z => e e' s' (X.mono f₁ z)
  | brk => exact q .brk σ₁ .brk Z₁ W₁ h₁ t₁ p₁ r₁ f₁ c₁ .brk
  | cont => exact q .cont σ₁ .cont Z₁ W₁ h₁ t₁ p₁ r₁ f₁ c₁ .cont
  | ret hv => exact q _ σ₁ _ Z₁ W₁ h₁ t₁ p₁ r₁ f₁ c₁ (.ret hv)

/-- bind a name, go on -/
noncomputable def Bind (C : Cx) (σ : St) (x : Str) (v : AV) (P : St → Prop) : Prop := ∃ loc', Store C.slots σ.loc x (some v) loc' ∧ P ⟨σ.heap, loc'⟩

theorem X_assign {x : Str} {pos' pos : Pos} {value : Expr} {Q : AF → St → Prop} (ok : Ok g C n)
    (h : AW g C X (eval value C.env) (fun v σ₁ => Bind C σ₁ x v (Q .next)) σ) (hs : swapsWith value (some (.Name x pos')) pos.line C.env = pure false := by rfl) : AX g C X (exec (.Assign [.Name x pos'] value pos) C.env) Q σ := by
  intro Y Z W hh tk r Qc Ec q e
  refine wpAny_Assign_Name (h Y Z W hh tk r _ Ec (fun b σ₁ v Z₁ W₁ h₁ t₁ p₁ r₁ f₁ w₁ x₁ => ?_) e) hs
  obtain ⟨loc', st, p₁⟩ := p₁
  exact store_name ok r₁ st x₁ fun h' tk' r' => q .next _ .next Z₁ W₁ h' tk' p₁ r' f₁ w₁.pc .next

theorem X_if {test : Expr} {body orelse : List Stmt} {pos : Pos} {Q : AF → St → Prop}
    (h : AWb g C X (isTrue test C.env (eval test C.env)) (fun b σ₁ => (b = true → AX g C X (execs body C.env) Q σ₁) ∧ (b = false → AX g C X (execs orelse C.env) Q σ₁)) σ) : AX g C X (exec (.If test body orelse pos) C.env) Q σ := by
  intro Y Z W hh tk r Qc Ec q e
  refine wpAny_If (h Y Z W hh tk r _ Ec (fun b σ₁ v Z₁ W₁ h₁ t₁ p₁ r₁ f₁ w₁ x₁ => ?_) e)
  subst x₁
  cases v with
  | true => exact p₁.1 rfl Y Z₁ W₁ h₁ t₁ r₁ Qc Ec (fun b σ' v Z' W' h' tk' hq r' f' c' x' => q b σ' v Z' W' h' tk' hq r' (f₁.trans f') (w₁.pc.trans c') x') fun e' s' z => e e' s' (X.mono f₁ z)
  | false => exact p₁.2 rfl Y Z₁ W₁ h₁ t₁ r₁ Qc Ec (fun b σ' v Z' W' h' tk' hq r' f' c' x' => q b σ' v Z' W' h' tk' hq r' (f₁.trans f') (w₁.pc.trans c') x') fun e' s' z => e e' s' (X.mono f₁ z)

theorem X_ret {x : Expr} {pos : Pos} {Q : AF → St → Prop} (h : AW g C X (eval x C.env) (fun v => Q (.ret v)) σ) : AX g C X (exec (.Return (some x) pos) C.env) Q σ :=
  fun Y Z W hh tk r Qc Ec q e => wpAny_Return_some (h Y Z W hh tk r _ Ec (fun b σ₁ v Z₁ W₁ h₁ t₁ p₁ r₁ f₁ w₁ x₁ => q _ σ₁ _ Z₁ W₁ h₁ t₁ p₁ r₁ f₁ w₁.pc (.ret x₁)) e)
theorem X_ret0 {pos : Pos} {Q : AF → St → Prop} (h : Q (.ret .none) σ) : AX g C X (exec (.Return none pos) C.env) Q σ :=
  fun Y Z W hh tk r Qc Ec q e => wpAny_Return_none (q (.ret .none) σ _ Z W hh tk h r (FLe.refl Z) (PC.refl _) (.ret (.f .none)))
theorem X_cont {pos : Pos} {Q : AF → St → Prop} (h : Q .cont σ) : AX g C X (exec (.Continue pos) C.env) Q σ :=
  fun Y Z W hh tk r Qc Ec q e => by
    show wpAny _ _ (standAt pos >>= fun _ => pure Flow.cont) _ _ _
    exact wpAny_bind (wpAny_standAt (wpAny_pure (q .cont σ _ Z W hh tk h r (FLe.refl Z) (PC.refl _) .cont)))
theorem X_expr {x : Expr} {pos : Pos} {Q : AF → St → Prop} (h : AW g C X (eval x C.env) (fun _ => Q .next) σ)
    (hi : interactive C.env = false := by rfl) (hs : swapsWith x none pos.line C.env = pure false := by rfl) : AX g C X (exec (.Expr x pos) C.env) Q σ :=
  fun Y Z W hh tk r Qc Ec q e => by
    rw [exec_Expr C.env x pos hi hs]
    exact wpAny_bind (wpAny_standAt (wpAny_bind (h Y Z W hh tk r _ Ec (fun b σ₁ v Z₁ W₁ h₁ t₁ p₁ r₁ f₁ w₁ x₁ => wpAny_dropValue (q .next σ₁ _ Z₁ W₁ h₁ t₁ p₁ r₁ f₁ w₁.pc .next)) e)))

/-- tests -/
theorem T_cmp {l r : Expr} {op : CmpOp} {pos : Pos} {whole : Sem Value} {Q : Bool → St → Prop}
    (h : AW g C X (eval l C.env) (fun a σ₁ => AW g C X (eval r C.env) (fun b σ₂ => AWh g C X (VR g.prog g.w) [a, b] (val2 (compareOp op)) (fun v σ₃ => ∃ t, v = .bool t ∧ Q t σ₃) σ₂) σ₁) σ) (hm : behindInMarks op r = false := by with_unfolding_all rfl) :
    AWb g C X (isTrue (.Compare l [op] [r] pos) C.env whole) Q σ := by
  intro Y Z W hh tk rr Qc Ec q e
  refine wpAny_isTrue_Compare1 (h Y Z W hh tk rr _ Ec (fun a σ₁ v₁ Z₁ W₁ h₁ t₁ p₁ r₁ f₁ w₁ x₁ => ?_) e) hm
  refine p₁ Y Z₁ W₁ h₁ t₁ r₁ _ Ec (fun b σ₂ v₂ Z₂ W₂ h₂ t₂ p₂ r₂ f₂ w₂ x₂ => ?_) fun e' s' z => e e' s' (X.mono f₁ z)
  refine p₂ Y Z₂ W₂ h₂ t₂ r₂ [v₁, v₂] (.cons (x₁.up f₂ w₂) (.cons x₂ .nil)) _ Ec (fun b σ' v Z' W' h' tk' hq r' f' w' x' => ?_) fun e' s' z => e e' s' (X.mono (f₁.trans f₂) z)
  obtain ⟨t, rfl, hq⟩ := hq
  cases vr_bool x'
  exact wpAny_truthy_bool (q t σ' _ Z' W' h' tk' hq r' ((f₁.trans f₂).trans f') ((w₁.trans w₂).trans w') rfl)
end


noncomputable def KeepOk (K : Frag) : Value → Prop
  | .builtin _ => True
  | .type _ => True
  | v => keepIn K v = true
theorem KeepOk.looks {K : Frag} {f : Value} (k : KeepOk K f) {M : Model} (h : Heap) (X : K.In h) : ∃ kk, (kk = Keeper.frame ∨ kk = Keeper.machine ∨ kk = Keeper.boundFrame) ∧ Looks M h (keeperOf f) kk := by
  cases f with
  | builtin i => exact ⟨.machine, .inr (.inl rfl), Looks.of_pure rfl⟩
  | type i => exact ⟨.machine, .inr (.inl rfl), Looks.of_pure rfl⟩
  | _ => exact keeps_K k h X

theorem evalArgs_sp {M : Model} {A : Around} {E : Value → Shared → Prop} {s : Shared} {f : Value} : ∀ {l : List (Bool × Sem Value)} {Q : Args → Shared → Prop}, l.any (·.1) = false → wpAny M A (spliced l) (fun vs s₁ => Q ⟨vs, []⟩ s₁) E s → wpAny M A (evalArgs f true l []) Q E s
  | [], Q, _, h => by
    unfold evalArgs
    show wpAny M A (spliced [] >>= _) Q E s
    refine wpAny_bind (wpAny_mono h (fun vs s₁ h₁ => ?_) fun _ _ x => x)
    refine wpAny_holding ?_
    simp only [List.all_nil, if_true]
    exact wpAny_bind (wpAny_pure (wpAny_bind (wpAny_pure (wpAny_pure h₁))))
  | (true, x) :: r, Q, hp, h => by cases hp
  | (false, x) :: r, Q, hp, h => evalArgs_kw rfl (wpAny_mono h (fun vs s₁ h₁ => wpAny_evalAll_nil h₁) fun _ _ z => z)

section
variable {g : Gl} {C : Cx} {X : XC} {σ : St} {n : Nat} {α β : Type} {R : Fz → List Addr → β → α → Prop}

theorem S_nil {pos : Pos} {Q : List AV → St → Prop} (h : Q [] σ) : AWs g C X (spliced (backTo pos (starEach [] C.env))) Q σ :=
  AWg.here h fun Y Z W hh tk r Qc Ec q => wpAny_pure (q [] hh tk (fun _ _ e => e) .nil)
theorem S_cons {e : Expr} {rest : List Expr} {pos : Pos} {Q : List AV → St → Prop} (h : AW g C X (eval e C.env) (fun x σ₁ => AWs g C X (spliced (backTo pos (starEach rest C.env))) (fun xs => Q (x :: xs)) σ₁) σ)
    (he : starEach (e :: rest) C.env = (false, eval e C.env) :: starEach rest C.env := by rfl) : AWs g C X (spliced (backTo pos (starEach (e :: rest) C.env))) Q σ := by
  intro Y Z W hh tk r Qc Ec q e'
  rw [he]
  show wpAny _ _ (do
    let v ← eval e C.env
    let here ← (pure [v] : Sem (List Value))
    return here ++ (← holding here (spliced (backTo pos (starEach rest C.env))))) _ _ _
  refine wpAny_bind (h Y Z W hh tk r _ Ec (fun a σ₁ v₁ Z₁ W₁ h₁ t₁ p₁ r₁ f₁ w₁ x₁ => wpAny_bind (wpAny_pure (wpAny_bind (wpAny_holding ?_)))) e')
  exact p₁ Y Z₁ W₁ h₁ t₁ r₁ _ Ec (fun b σ₂ v₂ Z₂ W₂ h₂ t₂ p₂ r₂ f₂ w₂ x₂ => wpAny_pure (q _ σ₂ _ Z₂ W₂ h₂ t₂ p₂ r₂ (f₁.trans f₂) (w₁.trans w₂) (.cons (x₁.up f₂ w₂) x₂))) fun e'' s' z => e' e'' s' (X.mono f₁ z)

theorem Rel.inK (ok : Ok g C n) {Y : Led} {Z : Fz} {W : List Ent} {h : Heap} (r : Rel g C Y Z W σ h) : g.K.In h := let ⟨_, _, _, x⟩ := r; ok.X.keeps x.fr.keep

theorem R_call {func : Expr} {args : List Expr} {pos : Pos} {Q : AV → St → Prop} (ok : Ok g C n)
    (h : AW g C X (eval func C.env) (fun f σ₁ => ∃ fv, f = .cst fv ∧ KeepOk g.K fv ∧ AWs g C X (spliced (backTo pos (starEach args C.env))) (fun xs σ₂ => AWh g C X (VR g.prog g.w) xs (fun vs => call fv vs) Q σ₂) σ₁) σ)
    (he : eval (.Call func args [] pos) C.env = (do callWith pos (← eval func C.env) [] (backTo pos (starEach args C.env)) (backToKw pos (keywordEach [] C.env))) := by rfl)
    (hp : (backTo pos (starEach args C.env)).any (·.1) = false := by rfl) : AW g C X (eval (.Call func args [] pos) C.env) Q σ := by
  intro Y Z W hh tk r Qc Ec q e
  rw [he]
  refine wpAny_bind (h Y Z W hh tk r _ Ec (fun a σ₁ v₁ Z₁ W₁ h₁ t₁ p₁ r₁ f₁ w₁ x₁ => ?_) e)
  obtain ⟨fv, rfl, hk, p₁⟩ := p₁
  cases vr_cst x₁
  refine callWith_of (P := g.K.In) (by rw [hp]; rfl) (fun h X => hk.looks h X) (evalArgs_sp hp ?_)
  refine p₁ Y Z₁ W₁ h₁ t₁ r₁ _ Ec (fun b σ₂ v₂ Z₂ W₂ h₂ t₂ p₂ r₂ f₂ w₂ x₂ => ⟨r₂.inK ok, ?_⟩) fun e'' s' z => e e'' s' (X.mono f₁ z)
  exact p₂ Y Z₂ W₂ h₂ t₂ r₂ v₂ x₂ Qc Ec (fun b σ' v Z' W' h' tk' hq r' f' w' x' => q b σ' v Z' W' h' tk' hq r' ((f₁.trans f₂).trans f') ((w₁.trans w₂).trans w') x') fun e' s' z => e e' s' (X.mono (f₁.trans f₂) z)

/-- the method `name` of ov is fv, called with ov ahead -/
noncomputable def Meth (g : Gl) (C : Cx) (σ : St) (ov : AV) (name : Str) (fv : Value) : Prop :=
  ∀ Y Z W h tk, Rel g C Y Z W σ h → ∀ v, VR g.prog g.w Z (adr W) ov v → ∀ pl (Qc : Value × List Value → Shared → Prop) Ec, (∀ tk', Qc (fv, [v]) (g.mk' h tk')) → wpAny (model g.prog g.w) C.A (getMethod v name pl) Qc Ec (g.mk' h tk)

theorem R_mcall {o : Expr} {name : Str} {args : List Expr} {apos pos : Pos} {Q : AV → St → Prop} (ok : Ok g C n) {pl : Sem Bool}
    (h : AW g C X (eval o C.env) (fun ov σ₁ => ∃ fv, Meth g C σ₁ ov name fv ∧ KeepOk g.K fv ∧ AWs g C X (spliced (backTo pos (starEach args C.env))) (fun xs σ₂ => AWh g C X (VR g.prog g.w) (ov :: xs) (fun vs => call fv vs) Q σ₂) σ₁) σ)
    (he : eval (.Call (.Attribute o name apos) args [] pos) C.env = (do
      let ov ← eval o C.env
      standAt apos.atName
      let (f, first) ← holding [ov] (getMethod ov name pl)
      callWith pos f first (backTo pos (starEach args C.env)) (backToKw pos (keywordEach [] C.env))) := by rfl)
    (hp : (backTo pos (starEach args C.env)).any (·.1) = false := by rfl) : AW g C X (eval (.Call (.Attribute o name apos) args [] pos) C.env) Q σ := by
  intro Y Z W hh tk r Qc Ec q e
  refine methodCall_KW (pl := pl) (h Y Z W hh tk r _ Ec (fun a σ₁ v₁ Z₁ W₁ h₁ t₁ p₁ r₁ f₁ w₁ x₁ => ?_) e) he
  obtain ⟨fv, hm, hk, p₁⟩ := p₁
  refine hm Y Z₁ W₁ h₁ t₁ r₁ v₁ x₁ pl _ Ec fun t₁ => ?_
  refine callWith_of (P := g.K.In) (by rw [hp]; rfl) (fun h X => hk.looks h X) (evalArgs_sp hp ?_)
  refine p₁ Y Z₁ W₁ h₁ t₁ r₁ _ Ec (fun b σ₂ v₂ Z₂ W₂ h₂ t₂ p₂ r₂ f₂ w₂ x₂ => ⟨r₂.inK ok, ?_⟩) fun e'' s' z => e e'' s' (X.mono f₁ z)
  exact p₂ Y Z₂ W₂ h₂ t₂ r₂ (v₁ :: v₂) (.cons (x₁.up f₂ w₂) x₂) Qc Ec (fun b σ' v Z' W' h' tk' hq r' f' w' x' => q b σ' v Z' W' h' tk' hq r' ((f₁.trans f₂).trans f') ((w₁.trans w₂).trans w') x') fun e' s' z => e e' s' (X.mono (f₁.trans f₂) z)

/-- a ghost step behind a computation -/
noncomputable def Gx (g : Gl) (C : Cx) {α β : Type} (R : Fz → List Addr → β → α → Prop) (P : β → St → Prop) (b : β) (σ : St) : Prop :=
  ∀ Y Z W h v, Rel g C Y Z W σ h → R Z (adr W) b v → ∃ b' σ' Z' W', P b' σ' ∧ Rel g C Y Z' W' σ' h ∧ FLe Z Z' ∧ PLe (adr W) (adr W') ∧ R Z' (adr W') b' v
theorem AWg.ghost {t : Sem α} {P : β → St → Prop} (h : AWg g C X R t (Gx g C R P) σ) : AWg g C X R t P σ :=
  fun Y Z W hh tk r Qc Ec q e => h Y Z W hh tk r Qc Ec (fun b σ' v Z' W' h' tk' x r' f' w' x' => by
    obtain ⟨b₂, σ₂, Z₂, W₂, p₂, r₂, f₂, w₂, x₂⟩ := x Y Z' W' h' v r' x'
    exact q b₂ σ₂ v Z₂ W₂ h' tk' p₂ r₂ (f'.trans f₂) (w'.trans w₂) x₂) e
noncomputable def GX (g : Gl) (C : Cx) (P : AF → St → Prop) (b : AF) (σ : St) : Prop :=
  ∀ Y Z W h v, Rel g C Y Z W σ h → FR g Z (adr W) b v → ∃ b' σ' Z' W', P b' σ' ∧ Rel g C Y Z' W' σ' h ∧ FLe Z Z' ∧ PC C (adr W) (adr W') ∧ FR g Z' (adr W') b' v
theorem AX.ghost {t : Sem Flow} {P : AF → St → Prop} (h : AX g C X t (GX g C P) σ) : AX g C X t P σ :=
  fun Y Z W hh tk r Qc Ec q e => h Y Z W hh tk r Qc Ec (fun b σ' v Z' W' h' tk' x r' f' c' x' => by
    obtain ⟨b₂, σ₂, Z₂, W₂, p₂, r₂, f₂, c₂, x₂⟩ := x Y Z' W' h' v r' x'
    exact q b₂ σ₂ v Z₂ W₂ h' tk' p₂ r₂ (f'.trans f₂) (c'.trans c₂) x₂) e
/-- a ghost step ahead of a statement -/
theorem AX.before {t : Sem Flow} {P : AF → St → Prop} {σ' : St} (h : AX g C X t P σ') (k : ∀ Y Z W h, Rel g C Y Z W σ h → ∃ Z' W', Rel g C Y Z' W' σ' h ∧ FLe Z Z' ∧ PC C (adr W) (adr W')) : AX g C X t P σ :=
  fun Y Z W hh tk r Qc Ec q e => by
    obtain ⟨Z₁, W₁, r₁, f₁, c₁⟩ := k Y Z W hh r
    exact h Y Z₁ W₁ hh tk r₁ Qc Ec (fun b σ' v Z' W' h' tk' x r' f' c' x' => q b σ' v Z' W' h' tk' x r' (f₁.trans f') (c₁.trans c') x') fun e' s' z => e e' s' (X.mono f₁ z)
end


noncomputable abbrev calleeCx (A' : Around) (C : Cx) (env' : Env) (gg : Heap) (L' : Addr) (slots : List Slot) (pl : Bool) : Cx :=
  { A := A'.deeper env', env := env', fenv := env', outer := C.fenv :: C.outer, A₀ := A', base := C.base, h₀ := gg, L := L', mode := .fn, slots := slots, pl := pl }

theorem ledger_all {kd Cs Y : Led} {Z : Fz} {W : List Ent} (cs : Led) : (ledger [] cs (kd ++ (Cs ++ Y)) Z W).Perm (cs ++ ledger kd Cs Y Z W) := by
  unfold ledger
  simp only [List.append_assoc, List.nil_append]
  exact List.Perm.refl _
theorem ledger_none {kd Cs Y : Led} {Z : Fz} {W W' : List Ent} (cs : Led) : (ledger [] cs (kd ++ (Cs ++ (Y ++ led W))) Z W').Perm (cs ++ (ledger kd Cs Y Z W ++ led W')) := by
  unfold ledger
  simp only [List.append_assoc, List.nil_append]
  refine List.Perm.append_left cs (List.Perm.append_left kd (List.Perm.append_left Cs (List.Perm.append_left Y ?_)))
  exact (List.perm_append_comm_assoc _ _ _).trans (List.Perm.append_left Z.z (List.perm_append_comm_assoc _ _ _))

section
variable {g : Gl} {C : Cx} {X : XC} {σ : St} {n n' : Nat}
  {name qual : Str} {params : Arguments} {body : List Stmt} {scope : Scope} {dV kV doc pm cdv ct : Value} {an : Option Addr} {f : Addr}

/-- what K says of a def -/
structure Fn (K : Frag) (f : Addr) (name qual : Str) (params : Arguments) (body : List Stmt) (scope : Scope) (dV kV doc pm : Value) (an : Option Addr) (cdv ct : Value) : Prop where
  ho : ∃ oc od osl, K.lookup f = some ⟨oc, od, .func (fnOf name qual params body scope dV kV doc pm an cdv ct), osl⟩
  hcd : codeIn K cdv qual = true
  hco : scope.isCoroutine = false
  hgen : scope.isGenerator = false
  hk : scope.kind = .function

noncomputable def retOf : AF → Option AV
  | .ret v => some v
  | .next => some .none
  | _ => none

/-- the words of a def without cells: its slots, the parameters bound -/
structure Sig (K : Frag) (fd : FuncData) (xs : List AV) (slots : List Slot) (loc₀ : List (Option AV)) : Prop where
  bind : ∀ s vs, K.In s.heap → vs.length = xs.length → ∃ binds, BindsTo s fd ⟨vs, []⟩ binds ∧ (∀ y ∈ binds, fd.scope.names.lookup y.1 = some .local) ∧
    ∀ g Z φ, VRs g.prog g.w Z φ xs vs → SR g Z φ (fun y => binds.reverse.lookup y) slots loc₀ []
  kl : ∀ x, .l x ∈ slots → fd.scope.names.lookup x = some .local
  kc : ∀ x a, Slot.c x a ∉ slots
  nd : (slots.map (·.nm)).Nodup
  nc : ∀ x ∈ fd.scope.names, x.2 ≠ .cell

theorem callee_ok (ok : Ok g C n) {A' : Around} {env' : Env} {gg : Heap} {L' : Addr} {slots : List Slot} {pl : Bool} (hA : A'.frames = some (C.fenv :: C.outer)) (hh : A'.handled = none)
    (rd : A'.depth + 1 + 2 * n' < recursionLimit) (ru : A'.units + 3 + 8 * n' < cLine) (B : Below A' C.base (C.fenv :: C.outer) gg) (st : C.h₀.StaysIn gg)
    (e1 : env'.frame = some L') (e2 : env'.scope.kind = .function) (e3 : env'.globals = mainGlobals) (e4 : env'.builtins = builtinsNs) (e5 : env'.locals = L')
    (kl : ∀ x, .l x ∈ slots → env'.kindOf x = some .local) (kc : ∀ x a, .c x a ∈ slots → env'.kindOf x = some .cell ∧ env'.cells.lookup x = some a) (nd : (slots.map (·.nm)).Nodup) : Ok g (calleeCx A' C env' gg L' slots pl) n' :=
  { B := B, X := ok.X.keeps st, T := ok.T.keeps st, fr := Around.frames_deeper hA, fL := e1, fk := e2, hh := hh, ek := e2, eg := e3, eb := e4, el := e5, ef := e1, kl := kl, kc := kc, nd := nd, rd := rd, ru := ru }

/-- a call of a def without cells; the callee sees the whole small heap -/
theorem fn_all (ok : Ok g C n) {A' : Around} (hA : A'.frames = some (C.fenv :: C.outer)) (hh : A'.handled = none) (rd : A'.depth + 1 + 2 * n' < recursionLimit) (ru : A'.units + 3 + 8 * n' < cLine)
    (F : Fn g.K f name qual params body scope dV kV doc pm an cdv ct) {xs : List AV} {slots : List Slot} {loc₀ : List (Option AV)} (S : Sig g.K (fnOf name qual params body scope dV kV doc pm an cdv ct) xs slots loc₀)
    {P : AV → List HO → Prop}
    (hb : ∀ C', Ok g C' n' → C'.env = envOf qual scope C'.L f cdv → C'.mode = .fn → C'.slots = slots → C'.pl = true → AX g C' XC.no (execs body C'.env) (fun fl σ' => ∃ v, retOf fl = some v ∧ P v σ'.heap) ⟨σ.heap, loc₀⟩)
    {Y : Led} {Z : Fz} {W : List Ent} {h : Heap} {tk : Nat} {vs : List Value} {Rs : Result → Shared → Prop} (r : Rel g C Y Z W σ h) (hv : VRs g.prog g.w Z (adr W) xs vs)
    (k : ∀ b H v Z' W' h' tk', P b H → Rel g C Y Z' W' ⟨H, σ.loc⟩ h' → FLe Z Z' → PLe (adr W) (adr W') → VR g.prog g.w Z' (adr W') b v → Rs (.ok (.ret v)) (g.mk' h' tk')) :
    codeAny (model g.prog g.w) A' (.call (.ref f) ⟨vs, []⟩) Rs (g.mk' h tk) := by
  have rX := r.inK ok
  obtain ⟨mF, kd, Cs, r⟩ := r
  obtain ⟨oc, od, osl, ho⟩ := F.ho
  have hX : g.K.In h := ok.X.keeps r.fr.keep
  obtain ⟨binds, hbind, hloc, hsr⟩ := S.bind (g.mk' h tk) vs hX hv.len.symm
  have B' : Below C.A₀ C.base C.outer C.h₀ := ok.B
  refine callX_plain (s := g.mk' h tk) (m := mF) (news := ledger kd Cs Y Z W) B' r.fr r.nw ok.T.nolimit hA ok.fL ok.fk (hX _ _ ho) rfl (codeRec_of hX F.hcd) (by omega) hbind hloc (fun gg L' h₁ FG F' N' BG st l => ?_) S.nc F.hco F.hgen F.hk
  have ok' : Ok g (calleeCx A' C (envOf qual scope L' f cdv) gg L' slots true) n' :=
    callee_ok ok hA hh rd ru BG st rfl F.hk rfl rfl rfl S.kl (fun x a q => absurd q (S.kc x a)) S.nd
  have pm := ledger_all (kd := kd) (Cs := Cs) (Y := Y) (Z := Z) (W := W) []
  have r' : Rel g (calleeCx A' C (envOf qual scope L' f cdv) gg L' slots true) (kd ++ (Cs ++ Y)) Z W ⟨σ.heap, loc₀⟩ h₁ :=
    ⟨_, [], [], ⟨F', newsPerm N' pm, (pm.map _).nodup_iff.mpr r.nd, ⟨rfl, hsr g _ _ hv⟩, r.or⟩⟩
  refine hb _ ok' rfl rfl rfl rfl _ Z W h₁ _ r' _ _ (fun b σ' v Z' W' h' tk' hp r₂ f₂ c₂ x₂ => ?_) (fun e s' z => z.elim)
  obtain ⟨u, hu, hp⟩ := hp
  obtain ⟨mF₂, kd₂, Cs₂, r₂⟩ := r₂
  have lo₂ := r₂.lo
  obtain ⟨rfl, _⟩ := lo₂
  have pl : PLe (adr W) (adr W') := c₂ rfl
  have pm₂ : (ledger [] Cs₂ (kd ++ (Cs ++ Y)) Z' W').Perm (Cs₂ ++ ledger kd Cs Y Z' W') := ledger_all Cs₂
  have N₂ : News gg L' h' (ledger kd Cs Y Z' W') := fun q hq => newsPerm r₂.nw pm₂.symm q (List.mem_append_right _ hq)
  have D₂ : ((ledger kd Cs Y Z' W').map (·.1)).Nodup := by
    have := (pm₂.map (·.1)).nodup_iff.mp r₂.nd
    rw [List.map_append] at this
    exact (List.nodup_append.mp this).2.1
  have fin : ∀ vv, VR g.prog g.w Z' (adr W') u vv → LeaveK C.h₀ C.L mF gg Rs vv (g.mk' h' tk') := fun vv hvv =>
    leaveK_ (s' := g.mk' h' tk') r₂.fr N₂ fun F₃ N₃ => k u σ'.heap vv Z' W' h' tk' hp
      ⟨mF, kd, Cs, ⟨F₃, N₃, D₂, r.lo.mono f₂ (fun _ _ e => pl.get e), r₂.or⟩⟩ f₂ pl hvv
  cases x₂ with
  | next => cases hu; exact fin _ (.f .none)
  | ret hv₂ => cases hu; exact fin _ hv₂
  | brk => cases hu
  | cont => cases hu

/-- a call of a def without cells, its arguments frozen: the callee has a small heap of its own -/
theorem fn_none (ok : Ok g C n) {A' : Around} (hA : A'.frames = some (C.fenv :: C.outer)) (hh : A'.handled = none) (rd : A'.depth + 1 + 2 * n' < recursionLimit) (ru : A'.units + 3 + 8 * n' < cLine)
    (F : Fn g.K f name qual params body scope dV kV doc pm an cdv ct) {xs : List FV} {slots : List Slot} {loc₀ : List (Option AV)} (S : Sig g.K (fnOf name qual params body scope dV kV doc pm an cdv ct) (xs.map .f) slots loc₀)
    {P : FV → Prop}
    (hb : ∀ C', Ok g C' n' → C'.env = envOf qual scope C'.L f cdv → C'.mode = .fn → C'.slots = slots → C'.pl = false → AX g C' XC.no (execs body C'.env) (fun fl σ' => ∃ v, retOf fl = some (.f v) ∧ P v) ⟨[], loc₀⟩)
    {Y : Led} {Z : Fz} {W : List Ent} {h : Heap} {tk : Nat} {vs : List Value} {Rs : Result → Shared → Prop} (r : Rel g C Y Z W σ h) (hv : VFs g.prog g.w Z xs vs)
    (k : ∀ b v Z' h' tk', P b → Rel g C Y Z' W σ h' → FLe Z Z' → VF g.prog g.w Z' b v → Rs (.ok (.ret v)) (g.mk' h' tk')) :
    codeAny (model g.prog g.w) A' (.call (.ref f) ⟨vs, []⟩) Rs (g.mk' h tk) := by
  obtain ⟨mF, kd, Cs, r⟩ := r
  obtain ⟨oc, od, osl, ho⟩ := F.ho
  have hX : g.K.In h := ok.X.keeps r.fr.keep
  obtain ⟨binds, hbind, hloc, hsr⟩ := S.bind (g.mk' h tk) vs hX (by rw [List.length_map]; exact hv.len.symm)
  have B' : Below C.A₀ C.base C.outer C.h₀ := ok.B
  refine callX_plain (s := g.mk' h tk) (m := mF) (news := ledger kd Cs Y Z W) B' r.fr r.nw ok.T.nolimit hA ok.fL ok.fk (hX _ _ ho) rfl (codeRec_of hX F.hcd) (by omega) hbind hloc (fun gg L' h₁ FG F' N' BG st l => ?_) S.nc F.hco F.hgen F.hk
  have ok' : Ok g (calleeCx A' C (envOf qual scope L' f cdv) gg L' slots false) n' :=
    callee_ok ok hA hh rd ru BG st rfl F.hk rfl rfl rfl S.kl (fun x a q => absurd q (S.kc x a)) S.nd
  have pm := ledger_none (kd := kd) (Cs := Cs) (Y := Y) (Z := Z) (W := W) (W' := []) []
  simp only [led, List.flatMap_nil, List.append_nil, List.nil_append] at pm
  have r' : Rel g (calleeCx A' C (envOf qual scope L' f cdv) gg L' slots false) (kd ++ (Cs ++ (Y ++ led W))) Z [] ⟨[], loc₀⟩ h₁ :=
    ⟨_, [], [], ⟨F', newsPerm N' pm, (pm.map _).nodup_iff.mpr r.nd, ⟨rfl, hsr g _ _ hv.vrs⟩, .nil⟩⟩
  refine hb _ ok' rfl rfl rfl rfl _ Z [] h₁ _ r' _ _ (fun b σ' v Z' W' h' tk' hp r₂ f₂ c₂ x₂ => ?_) (fun e s' z => z.elim)
  obtain ⟨u, hu, hp⟩ := hp
  obtain ⟨mF₂, kd₂, Cs₂, r₂⟩ := r₂
  have lo₂ := r₂.lo
  obtain ⟨rfl, _⟩ := lo₂
  have pm₂ : (ledger [] Cs₂ (kd ++ (Cs ++ (Y ++ led W))) Z' W').Perm (Cs₂ ++ (ledger kd Cs Y Z' W ++ led W')) := ledger_none Cs₂
  have N₂ : News gg L' h' (ledger kd Cs Y Z' W) := fun q hq => newsPerm r₂.nw pm₂.symm q (List.mem_append_right _ (List.mem_append_left _ hq))
  have D₂ : ((ledger kd Cs Y Z' W).map (·.1)).Nodup := by
    have := (pm₂.map (·.1)).nodup_iff.mp r₂.nd
    rw [List.map_append, List.map_append] at this
    exact (List.nodup_append.mp (List.nodup_append.mp this).2.1).1
  have fin : ∀ vv, VF g.prog g.w Z' u vv → LeaveK C.h₀ C.L mF gg Rs vv (g.mk' h' tk') := fun vv hvv =>
    leaveK_ (s' := g.mk' h' tk') r₂.fr N₂ fun F₃ N₃ => k u vv Z' h' tk' hp
      ⟨mF, kd, Cs, ⟨F₃, N₃, D₂, r.lo.mono f₂ (fun _ _ e => e), r.or.mono f₂ (fun _ _ e => e)⟩⟩ f₂ hvv
  cases x₂ with
  | next => cases hu; exact fin _ .none
  | ret hv₂ => cases hu; cases hv₂ with | f hv₂ => exact fin _ hv₂
  | brk => cases hu
  | cont => cases hu
end


section
variable {g : Gl} {C : Cx} {X : XC} {σ : St} {n : Nat} {Y : Led} {Z : Fz} {W : List Ent} {h : Heap} {mF : Str → Option Value} {kd Cs : Led}

theorem adr_setL {W : List Ent} {i : Nat} {a : Addr} {o o' : Led} (hi : W[i]? = some ⟨a, o⟩) : adr (W.set i ⟨a, o'⟩) = adr W := adr_set hi rfl
/-- the i-th mutable object, a list -/
theorem RelM.mlist (r : RelM g C Y Z W σ h mF kd Cs) {i : Nat} {xs : List AV} {v : Value} (hx : σ.heap[i]? = some (.lst xs)) (hv : VR g.prog g.w Z (adr W) (.ref i) v) :
    ∃ a vs m, v = .ref a ∧ W[i]? = some ⟨a, [(a, listOf vs.toArray m)]⟩ ∧ VRs g.prog g.w Z (adr W) xs vs := by
  cases hv with
  | ref hi =>
    obtain ⟨e, he, oe⟩ := r.or.get hx
    cases oe with
    | lst l rs =>
      have := (adr_get he).symm.trans hi
      cases this
      obtain ⟨m, rfl⟩ := l
      exact ⟨_, _, m, rfl, he, rs⟩
theorem RelM.updL (r : RelM g C Y Z W σ h mF kd Cs) {i : Nat} {a : Addr} {vs : List Value} {m : Nat} (hi : W[i]? = some ⟨a, [(a, listOf vs.toArray m)]⟩) (its' : Array Value) (m' : Nat) :
    ∃ news', Upd a (listOf vs.toArray m) (listOf its' m') (ledger kd Cs Y Z W) news' ∧ ∀ h' xs' vs', its' = vs'.toArray → Fr C.h₀ C.L h' mF → News C.h₀ C.L h' news' → VRs g.prog g.w Z (adr W) xs' vs' →
      Rel g C Y Z (W.set i ⟨a, [(a, listOf its' m')]⟩) ⟨σ.heap.set i (.lst xs'), σ.loc⟩ h' := by
  obtain ⟨P, S, l1, _⟩ := ledger_at (kd := kd) (Cs := Cs) (Y := Y) (Z := Z) hi (pre := []) (post := []) rfl
  have nd := r.nd
  rw [l1] at nd
  have sp := nodup_split nd
  refine ⟨P ++ (a, listOf its' m') :: S, by rw [l1]; exact Upd.mk' sp.2.1 sp.1, fun h' xs' vs' e F N hv => ⟨mF, kd, Cs, ?_⟩⟩
  subst e
  exact r.upd' hi (pre := []) (post := []) rfl rfl rfl F (fun P' S' l' => by
    have := l1.symm.trans l'
    have nd' := nd
    have e1 : P' = P ∧ S' = S := by
      rw [l1] at l'
      have key : ∀ {P P' S S' : Led}, P ++ (a, listOf vs.toArray m) :: S = P' ++ (a, listOf vs.toArray m) :: S' → (∀ p ∈ P, p.1 ≠ a) → (∀ p ∈ P', p.1 ≠ a) → P = P' ∧ S = S' := by
        intro P
        induction P with
        | nil =>
          intro P' S S' q _ h2
          cases P' with
          | nil => exact ⟨rfl, by simpa using q⟩
          | cons x P' =>
            simp only [List.nil_append, List.cons_append, List.cons.injEq] at q
            exact absurd (by rw [← q.1]) (h2 x (.head _))
        | cons y P ih =>
          intro P' S S' q h1 h2
          cases P' with
          | nil =>
            simp only [List.nil_append, List.cons_append, List.cons.injEq] at q
            exact absurd (by rw [q.1]) (h1 y (.head _))
          | cons x P' =>
            simp only [List.cons_append, List.cons.injEq] at q
            obtain ⟨k1, k2⟩ := ih q.2 (fun p hp => h1 p (.tail _ hp)) fun p hp => h2 p (.tail _ hp)
            exact ⟨by rw [q.1, k1], k2⟩
      have sp' := nodup_split (l' ▸ nd)
      obtain ⟨k1, k2⟩ := key l' sp.1 sp'.1
      exact ⟨k1.symm, k2.symm⟩
    obtain ⟨rfl, rfl⟩ := e1
    exact N) (.lst ⟨m', rfl⟩ hv)

theorem L_len {x : AV} {xs : List AV} {Q : AV → St → Prop} (hx : lstOf σ x = some xs) (hz : xs.length < 2 ^ 62) (h : Q (.int xs.length) σ) : AWh g C X (VR g.prog g.w) [x] (fun vs => call (.builtin "len") vs) Q σ :=
  AWh.here h fun Y Z W hh tk r vs hv Qc Ec q => by
    obtain ⟨v, rfl, h1⟩ := vrs1 hv
    obtain ⟨mF, kd, Cs, r⟩ := r
    obtain ⟨a, vs, o, rfl, h2, h3, h4⟩ := r.list hx h1
    refine call_len_list (h3.is h2) (by rw [List.size_toArray, ← h4.len]; omega) (q (.int _ (tk + 1)) hh (tk + 1 + 1) (fun _ _ e => e) ?_)
    rw [List.size_toArray, ← h4.len]
    exact .f .int

theorem L_append {i : Nat} {xs : List AV} {x : AV} {Q : AV → St → Prop} (hx : σ.heap[i]? = some (.lst xs)) (hz : xs.length ≤ 2 ^ 20) (h : Q .none ⟨σ.heap.set i (.lst (xs ++ [x])), σ.loc⟩) :
    AWh g C X (VR g.prog g.w) [.ref i, x] (fun vs => call (.builtin "list.append") vs) Q σ := by
  intro Y Z W hh tk r vs hv Qc Ec q e
  obtain ⟨v, u, rfl, h1, h2⟩ := vrs2 hv
  obtain ⟨mF, kd, Cs, r⟩ := r
  obtain ⟨a, vs, m, rfl, hi, hr⟩ := r.mlist hx h1
  obtain ⟨news', U, k⟩ := r.updL hi (vs.toArray.push u) (m + 1)
  refine append_K r.fr r.nw U (fun h' F N => q _ _ .none Z _ h' tk h (k h' _ (vs ++ [u]) (by simp) F N (hr.append (.cons h2 .nil))) (FLe.refl Z) ?_ (.f .none)) (by rw [List.size_toArray, ← hr.len, sizeLine_eq]; omega)
  rw [adr_setL hi]; exact PLe.refl _

theorem L_pop0 {i : Nat} {xs : List AV} {x : AV} {Q : AV → St → Prop} (hx : σ.heap[i]? = some (.lst (x :: xs))) (hz : xs.length ≤ 2 ^ 20) (h : Q x ⟨σ.heap.set i (.lst xs), σ.loc⟩) :
    AWh g C X (VR g.prog g.w) [.ref i, .int 0] (fun vs => call (.builtin "list.pop") vs) Q σ := by
  intro Y Z W hh tk r vs hv Qc Ec q e
  obtain ⟨v, u, rfl, h1, h2⟩ := vrs2 hv
  obtain ⟨t, rfl⟩ := vr_int h2
  obtain ⟨mF, kd, Cs, r⟩ := r
  obtain ⟨a, vs, m, rfl, hi, hr⟩ := r.mlist hx h1
  cases hr with
  | cons hy hr =>
    rename_i y vs
    obtain ⟨news', U, k⟩ := r.updL hi (([] : List Value) ++ vs).toArray (m + 1)
    refine kl_popAt (p := []) (q := vs) (y := y) (k := 0) r.fr r.nw (by decide) (by unfold seqIndex?; simp) rfl U (by simp only [List.length_cons]; rw [← hr.len, sizeLine_eq]; omega) fun h' F N => ?_
    refine q _ _ y Z _ h' tk h (k h' xs vs rfl F N hr) (FLe.refl Z) ?_ ?_
    · rw [adr_setL hi]; exact PLe.refl _
    · rw [adr_setL hi]; exact hy

theorem L_setItem {i : Nat} {xs : List AV} {k : Int} {x : AV} {Q : Unit → St → Prop} (hx : σ.heap[i]? = some (.lst xs)) (h0 : 0 ≤ k) (h1 : k.toNat < xs.length) (hz : xs.length ≤ 2 ^ 20) (h : Q () ⟨σ.heap.set i (.lst (xs.set k.toNat x)), σ.loc⟩) :
    AWh g C X (fun _ _ (_ : Unit) _ => True) [.ref i, .int k, x] (fun vs => match vs with | [a, b, c] => setItem a b c | _ => unsupported "") Q σ := by
  intro Y Z W hh tk r vs hv Qc Ec q e
  cases hv with | cons k1 hv => cases hv with | cons k2 hv => cases hv with | cons k3 hv => cases hv with | nil =>
  rename_i v1 v2 v3
  obtain ⟨t, rfl⟩ := vr_int k2
  obtain ⟨mF, kd, Cs, r⟩ := r
  obtain ⟨a, vs, m, rfl, hi, hr⟩ := r.mlist hx k1
  obtain ⟨news', U, kk⟩ := r.updL hi (vs.set k.toNat v3).toArray m
  obtain ⟨pre, post, e1, e2, s1, s2⟩ := U.split
  have N := r.nw
  rw [e1] at N
  have z := N (a, listOf vs.toArray m) (List.mem_append.mpr (.inr (.head _)))
  have hl := hr.len
  refine ki_setAt (by exact z.1) h0 (by omega) (by rw [List.size_toArray]; omega) ?_
  refine q () _ () Z _ _ tk h (kk _ _ _ rfl (r.fr.change (Heap.SameBut.update ..) z.2.1 z.2.2) ?_ (hr.set k3 k.toNat)) (FLe.refl Z) (by rw [adr_setL hi]; exact PLe.refl _) trivial
  rw [e2]
  refine ki_turn _ N s1 s2 ?_ ?_
  · show vs.toArray.setIfInBounds k.toNat v3 = (vs.set k.toNat v3).toArray
    apply Array.toList_inj.mp
    simp
  · simp

theorem R_sub {value slice : Expr} {pos : Pos} {Q : AV → St → Prop}
    (h : AW g C X (eval value C.env) (fun o σ₁ => AW g C X (eval slice C.env) (fun i σ₂ => AWh g C X (VR g.prog g.w) [o, i] (val2 (subscriptTail value slice)) Q σ₂) σ₁) σ) : AW g C X (eval (.Subscript value slice pos) C.env) Q σ := by
  intro Y Z W hh tk rr Qc Ec q e
  refine Subscript_ (h Y Z W hh tk rr _ Ec (fun a σ₁ v₁ Z₁ W₁ h₁ t₁ p₁ r₁ f₁ w₁ x₁ => ?_) e)
  refine p₁ Y Z₁ W₁ h₁ t₁ r₁ _ Ec (fun b σ₂ v₂ Z₂ W₂ h₂ t₂ p₂ r₂ f₂ w₂ x₂ => ?_) fun e' s' z => e e' s' (X.mono f₁ z)
  exact p₂ Y Z₂ W₂ h₂ t₂ r₂ [v₁, v₂] (.cons (x₁.up f₂ w₂) (.cons x₂ .nil)) Qc Ec (fun b σ' v Z' W' h' tk' hq r' f' w' x' => q b σ' v Z' W' h' tk' hq r' ((f₁.trans f₂).trans f') ((w₁.trans w₂).trans w') x') fun e' s' z => e e' s' (X.mono (f₁.trans f₂) z)
theorem G_list {value slice : Expr} {x y : AV} {xs : List AV} {k : Int} {Q : AV → St → Prop} (hx : lstOf σ x = some xs) (h0 : 0 ≤ k) (hk : k < 2 ^ 63) (hy : xs[k.toNat]? = some y) (h : Q y σ)
    (hs : ∀ o i, subscripted slice false o i = operate [o, i] (getItem o i) := by intro _ _; with_unfolding_all rfl) : AWh g C X (VR g.prog g.w) [x, .int k] (val2 (subscriptTail value slice)) Q σ :=
  AWh.here h fun Y Z W hh tk r vs hv Qc Ec q => by
    obtain ⟨v, u, rfl, h1, h2⟩ := vrs2 hv
    obtain ⟨t, rfl⟩ := vr_int h2
    obtain ⟨mF, kd, Cs, r⟩ := r
    obtain ⟨a, vs, o, rfl, h2, h3, h4⟩ := r.list hx h1
    obtain ⟨v, hv, hr⟩ := h4.get hy
    have hl : (g.mk' hh tk).heap.IsList a vs.toArray := h3.is h2
    exact tail_any hl.typeIs slot_list_getitem.lookup (wpAny_getItem_list hl h0 hk (by simpa using hv) (q v hh tk (fun _ _ e => e) hr)) (hs _ _)

theorem M_list {x : AV} {xs : List AV} {name : Str} {id : String} (hx : lstOf σ x = some xs) (slot : PySem.Slot "list" name id) (hty : typeOf (.builtin id) = pure (.type "method_descriptor")) : Meth g C σ x name (.builtin id) := by
  intro Y Z W h tk r v hv pl Qc Ec q
  obtain ⟨mF, kd, Cs, r⟩ := r
  obtain ⟨a, vs, o, rfl, h2, ⟨m, rfl⟩, h4⟩ := r.list hx hv
  exact getMethod_builtin ⟨_, h2, rfl⟩ PySem.F.plainAttrs_list slot hty (fun a e => by cases e; exact ⟨_, h2, rfl⟩) (q tk)
end


section
variable {g : Gl} {C : Cx} {X : XC} {σ : St} {n : Nat}
  {name qual : Str} {params : Arguments} {body : List Stmt} {scope : Scope} {dV kV doc pm cdv ct : Value} {an : Option Addr} {f : Addr}

theorem B_fdiv {i j : Int} {Q : AV → St → Prop} (hj : j ≠ 0) (hs : j.natAbs < 1073741824) (h : Q (.int (i.fdiv j)) σ) : AWh g C X (VR g.prog g.w) [.int i, .int j] (val2 (binaryOp .FloorDiv)) Q σ :=
  H_ii h fun t u s Qc Ec q => floordiv_int hj (q _ _ fun _ _ => .f .int) (.inl (PyProof.noPylong_small hs))

theorem X_setSub {o i value : Expr} {pos' pos : Pos} {Q : AF → St → Prop}
    (h : AW g C X (eval value C.env) (fun v σ₁ => AW g C X (eval o C.env) (fun ov σ₂ => AW g C X (eval i C.env) (fun iv σ₃ =>
      AWh g C X (fun _ _ (_ : Unit) _ => True) [ov, iv, v] (fun vs => match vs with | [a, b, c] => setItem a b c | _ => unsupported "") (fun _ => Q .next) σ₃) σ₂) σ₁) σ)
    (hs : swapsWith value (some (.Subscript o i pos')) pos.line C.env = pure false := by rfl) : AX g C X (exec (.Assign [.Subscript o i pos'] value pos) C.env) Q σ := by
  intro Y Z W hh tk rr Qc Ec q e
  refine wpAny_Assign_Subscript (h Y Z W hh tk rr _ Ec (fun a σ₁ v₁ Z₁ W₁ h₁ t₁ p₁ r₁ f₁ w₁ x₁ => ?_) e) hs
  refine p₁ Y Z₁ W₁ h₁ t₁ r₁ _ Ec (fun b σ₂ v₂ Z₂ W₂ h₂ t₂ p₂ r₂ f₂ w₂ x₂ => ?_) fun e' s' z => e e' s' (X.mono f₁ z)
  refine p₂ Y Z₂ W₂ h₂ t₂ r₂ _ Ec (fun c σ₃ v₃ Z₃ W₃ h₃ t₃ p₃ r₃ f₃ w₃ x₃ => ?_) fun e' s' z => e e' s' (X.mono (f₁.trans f₂) z)
  exact p₃ Y Z₃ W₃ h₃ t₃ r₃ [v₂, v₃, v₁] (.cons (x₂.up f₃ w₃) (.cons x₃ (.cons (x₁.up (f₂.trans f₃) (w₂.trans w₃)) .nil))) _ Ec
    (fun b σ' v Z' W' h' tk' hq r' f' w' x' => q .next σ' _ Z' W' h' tk' hq r' (((f₁.trans f₂).trans f₃).trans f') (((w₁.trans w₂).trans w₃).trans w').pc .next) fun e' s' z => e e' s' (X.mono ((f₁.trans f₂).trans f₃) z)
theorem X_setAttr {o value : Expr} {attr : Str} {pos' pos : Pos} {Q : AF → St → Prop}
    (h : AW g C X (eval value C.env) (fun v σ₁ => AW g C X (eval o C.env) (fun ov σ₂ =>
      AWh g C X (fun _ _ (_ : Unit) _ => True) [ov, v] (val2 (fun a b => setAttr a attr b)) (fun _ => Q .next) σ₂) σ₁) σ)
    (hs : swapsWith value (some (.Attribute o attr pos')) pos.line C.env = pure false := by rfl) : AX g C X (exec (.Assign [.Attribute o attr pos'] value pos) C.env) Q σ := by
  intro Y Z W hh tk rr Qc Ec q e
  refine plainObj_wpAny_Assign_Attribute (h Y Z W hh tk rr _ Ec (fun a σ₁ v₁ Z₁ W₁ h₁ t₁ p₁ r₁ f₁ w₁ x₁ => ?_) e) hs
  refine p₁ Y Z₁ W₁ h₁ t₁ r₁ _ Ec (fun b σ₂ v₂ Z₂ W₂ h₂ t₂ p₂ r₂ f₂ w₂ x₂ => ?_) fun e' s' z => e e' s' (X.mono f₁ z)
  exact p₂ Y Z₂ W₂ h₂ t₂ r₂ [v₂, v₁] (.cons x₂ (.cons (x₁.up f₂ w₂) .nil)) _ Ec
    (fun b σ' v Z' W' h' tk' hq r' f' w' x' => q .next σ' _ Z' W' h' tk' hq r' ((f₁.trans f₂).trans f') ((w₁.trans w₂).trans w').pc .next) fun e' s' z => e e' s' (X.mono (f₁.trans f₂) z)

theorem N_glob {E : Env} (he : C.env = E) {x : Str} {pos : Pos} {v : Value} {Q : AV → St → Prop} (ok : Ok g C n) (e : nsIn g.K mainGlobals x = some (some v)) (h : Q (.cst v) σ) (hv : handedIn v = true := by rfl)
    (hx : E.kindOf x = some .globalImplicit := by rfl) (hd : (x == ("__debug__" : Str)) = false := by decide) : AW g C X (eval (.Name x pos) C.env) Q σ := R_glob ok e h hv (by rw [he]; exact hx) hd
theorem N_bi {E : Env} (he : C.env = E) {x : Str} {pos : Pos} {v : Value} {Q : AV → St → Prop} (ok : Ok g C n) (e : nsIn g.K mainGlobals x = some none) (hb : bootBuiltins x = some v) (h : Q (.cst v) σ) (hne : x ≠ "__name__" := by decide) (hv : handedIn v = true := by rfl)
    (hx : E.kindOf x = some .globalImplicit := by rfl) (hd : (x == ("__debug__" : Str)) = false := by decide) : AW g C X (eval (.Name x pos) C.env) Q σ := R_bi ok e hb h hne hv (by rw [he]; exact hx) hd
theorem X_ex {E : Env} (he : C.env = E) {x : Expr} {pos : Pos} {Q : AF → St → Prop} (h : AW g C X (eval x C.env) (fun _ => Q .next) σ) (hi : interactive E = false := by rfl) (hs : swapsWith x none pos.line C.env = pure false := by rfl) :
    AX g C X (exec (.Expr x pos) C.env) Q σ := X_expr h (by rw [he]; exact hi) hs

theorem call_all (ok : Ok g C (n + 1)) (F : Fn g.K f name qual params body scope dV kV doc pm an cdv ct) {xs : List AV} {slots : List Slot} {loc₀ : List (Option AV)} (S : Sig g.K (fnOf name qual params body scope dV kV doc pm an cdv ct) xs slots loc₀)
    {Q : AV → St → Prop}
    (hb : ∀ C', Ok g C' n → C'.env = envOf qual scope C'.L f cdv → C'.mode = .fn → C'.slots = slots → C'.pl = true → AX g C' XC.no (execs body C'.env) (fun fl σ' => ∃ v, retOf fl = some v ∧ Q v ⟨σ'.heap, σ.loc⟩) ⟨σ.heap, loc₀⟩) :
    AWh g C X (VR g.prog g.w) xs (fun vs => call (.ref f) vs) Q σ := by
  intro Y Z W hh tk r vs hv Qc Ec q e
  have := ok.rd
  have := ok.ru
  exact wpAny_call (fn_all (P := fun v H => Q v ⟨H, σ.loc⟩) ok ok.fr ok.hh (by omega) (by omega) F S hb r hv fun b H v Z' W' h' tk' p r' f' w' x' => q b ⟨H, σ.loc⟩ v Z' W' h' tk' p r' f' w' x')
theorem call_none (ok : Ok g C (n + 1)) (F : Fn g.K f name qual params body scope dV kV doc pm an cdv ct) {xs : List FV} {slots : List Slot} {loc₀ : List (Option AV)} (S : Sig g.K (fnOf name qual params body scope dV kV doc pm an cdv ct) (xs.map .f) slots loc₀)
    {P : FV → Prop}
    (hb : ∀ C', Ok g C' n → C'.env = envOf qual scope C'.L f cdv → C'.mode = .fn → C'.slots = slots → C'.pl = false → AX g C' XC.no (execs body C'.env) (fun fl σ' => ∃ v, retOf fl = some (.f v) ∧ P v) ⟨[], loc₀⟩)
    {Q : AV → St → Prop} (hq : ∀ v, P v → Q (.f v) σ) : AWh g C X (VR g.prog g.w) (xs.map .f) (fun vs => call (.ref f) vs) Q σ := by
  intro Y Z W hh tk r vs hv Qc Ec q e
  have := ok.rd
  have := ok.ru
  exact wpAny_call (fn_none (P := P) ok ok.fr ok.hh (by omega) (by omega) F S hb r hv.vfs fun b v Z' h' tk' p r' f' x' => q (.f b) σ v Z' W h' tk' (hq b p) r' f' (PLe.refl _) (.f x'))
end

/-- the parameters bound -/
theorem OV.mk {g : Gl} {Z : Fz} {φ : List Addr} {x : AV} {v : Value} {o : Option Value} (e : o = some v) (h : VR g.prog g.w Z φ x v) : OV g Z φ (some x) o := by subst e; exact h
theorem sr_none {g : Gl} {Z : Fz} {φ : List Addr} {m : Str → Option Value} (os : List Str) {F : Str → Option AV} (h : ∀ x ∈ os, OV g Z φ (F x) (m x)) : SR g Z φ m (os.map .l) (os.map F) [] := by
  induction os with
  | nil => exact .nil
  | cons o os ih => exact .l (h _ (.head _)) (ih fun x hx => h x (.tail _ hx))
theorem sr_init {g : Gl} {Z : Fz} {φ : List Addr} {m : Str → Option Value} {os : List Str} {ps : List Str} {xs : List AV} {vs : List Value} (hl : ps.length = xs.length) (h : VRs g.prog g.w Z φ xs vs) (k : ∀ q ∈ ps.zip vs, m q.1 = some q.2) :
    SR g Z φ m (ps.map .l ++ os.map .l) (xs.map some ++ os.map fun _ => none) [] := by
  induction h generalizing ps with
  | nil =>
    cases List.length_eq_zero_iff.mp hl
    exact sr_none os fun _ _ => trivial
  | cons a _ ih =>
    cases ps with
    | nil => cases hl
    | cons p ps => exact .l (.mk (k (p, _) (.head _)) a) (ih (Nat.succ.inj hl) fun q hq => k q (.tail _ hq))
theorem lookup_nd {l : List (Str × Value)} {q : Str × Value} (nd : (l.map (·.1)).Nodup) (h : q ∈ l) : l.lookup q.1 = some q.2 := by
  induction l with
  | nil => cases h
  | cons y l ih =>
    obtain ⟨x, v⟩ := y
    have nd := List.nodup_cons.mp nd
    rw [List.lookup_cons]
    rcases List.mem_cons.mp h with rfl | h
    · rw [beq_self_eq_true]
    · rw [beq_eq_false_iff_ne.mpr fun e => nd.1 (List.mem_map.mpr ⟨q, h, e⟩)]
      exact ih nd.2 h
theorem zip_lookup {ps : List Str} {vs : List Value} (nd : ps.Nodup) : ∀ q ∈ ps.zip vs, (ps.zip vs).reverse.lookup q.1 = some q.2 := by
  intro q hq
  have e : ((ps.zip vs).reverse.map (·.1)).Nodup := by
    rw [List.map_reverse]
    refine (List.reverse_perm _).nodup_iff.mpr ?_
    have : ∀ {ps : List Str} {vs : List Value}, ps.Nodup → ((ps.zip vs).map (·.1)).Nodup := by
      intro ps
      induction ps with
      | nil => intro vs _; simp
      | cons p ps ih =>
        intro vs nd
        cases vs with
        | nil => simp
        | cons v vs =>
          rw [List.nodup_cons] at nd
          simp only [List.zip_cons_cons, List.map_cons, List.nodup_cons]
          refine ⟨fun hm => nd.1 ?_, ih nd.2⟩
          obtain ⟨x, hx, hp⟩ := List.mem_map.mp hm
          rw [← hp]
          exact (List.of_mem_zip hx).1
    exact this nd
  exact lookup_nd e (by rw [List.mem_reverse]; exact hq)

/-- a def with plain parameters alone -/
theorem Sig.plain {K : Frag} {fd : FuncData} {xs : List AV} (ps os : List Str) (hl : ps.length = xs.length) (hb : ∀ vs : List Value, vs.length = ps.length → bindArgs fd ⟨vs, []⟩ = pure (ps.zip vs))
    (h1 : ((ps ++ os).all fun x => fd.scope.names.lookup x == some .local) = true) (h2 : (ps ++ os).Nodup) (h3 : (fd.scope.names.all fun x => x.2 != .cell) = true) :
    Sig K fd xs (ps.map .l ++ os.map .l) (xs.map some ++ os.map fun _ => none) := by
  have loc : ∀ x ∈ ps ++ os, fd.scope.names.lookup x = some .local := fun x hx => beq_iff_eq.mp (List.all_eq_true.mp h1 x hx)
  refine ⟨fun s vs _ hv => ⟨ps.zip vs, BindsTo.of_eq (hb vs (by omega)), fun y hy => loc _ (List.mem_append_left _ (List.of_mem_zip hy).1), fun g Z φ hr => sr_init hl hr (zip_lookup (List.nodup_append.mp h2).1)⟩, fun x hx => ?_, fun x a hx => ?_, ?_, fun x hx => ?_⟩
  · rw [← List.map_append] at hx
    obtain ⟨y, hy, e⟩ := List.mem_map.mp hx
    cases e
    exact loc _ hy
  · rw [← List.map_append] at hx
    obtain ⟨y, hy, e⟩ := List.mem_map.mp hx
    cases e
  · rw [← List.map_append, List.map_map]
    have : ((·.nm) ∘ Slot.l) = id := rfl
    rw [this, List.map_id]; exact h2
  · have := List.all_eq_true.mp h3 x hx
    simpa using this

section
variable {g : Gl} {C : Cx} {X : XC} {σ : St} {n : Nat}
theorem R_l {S : List Slot} (hs : C.slots = S) {x : Str} {pos : Pos} {v : AV} {Q : AV → St → Prop} (ok : Ok g C n) (hl : Load S σ.loc x v) (h : Q v σ) (hd : (x == ("__debug__" : Str)) = false := by decide) : AW g C X (eval (.Name x pos) C.env) Q σ := R_loc ok (by rw [hs]; exact hl) h hd
theorem Bind.mk {S : List Slot} (hs : C.slots = S) {x : Str} {v : AV} {P : St → Prop} {loc' : List (Option AV)} (st : Store S σ.loc x (some v) loc') (h : P ⟨σ.heap, loc'⟩) : Bind C σ x v P := ⟨loc', by rw [hs]; exact st, h⟩
theorem K_next {rest : List Stmt} {Q : AF → St → Prop} (h : AX g C X (execs rest C.env) Q σ) : K' g C X rest Q .next σ := h
theorem K_ret {rest : List Stmt} {Q : AF → St → Prop} {v : AV} (h : Q (.ret v) σ) : K' g C X rest Q (.ret v) σ := h
theorem K_cont {rest : List Stmt} {Q : AF → St → Prop} (h : Q .cont σ) : K' g C X rest Q .cont σ := h
theorem ex_bool {b : Bool} {Q : Bool → Prop} (h : Q b) : ∃ t, AV.bool b = .bool t ∧ Q t := ⟨b, rfl, h⟩
theorem ex_cst {v : Value} {P : Value → Prop} (k : P v) : ∃ fv, AV.cst v = .cst fv ∧ P fv := ⟨v, rfl, k⟩
end


/-- the field nm of class c's instances: read and stored plainly -/
structure CI (g : Gl) (c : Addr) (nm : Str) : Prop where
  pg : plainGet g.K c nm = true
  hd : hasDictIn g.K c = true
  fi : findIn g.K (.ref c) nm = some none
  sa : findIn g.K (.ref c) "__setattr__" = some (some (.builtin "object.__setattr__"))
  po : plainOver g.K c = true
  tk : takerIn g.K c nm = some none

noncomputable def fieldOf {α : Type} : List Str → List α → Str → Option α
  | k :: ks, x :: xs, nm => if k = nm then some x else fieldOf ks xs nm
  | _, _, _ => none
noncomputable def putK : List Str → Str → List Str
  | [], nm => [nm]
  | k :: ks, nm => if k = nm then k :: ks else k :: putK ks nm
noncomputable def putX {α : Type} : List Str → List α → Str → α → List α
  | k :: ks, x :: xs, nm, y => if k = nm then y :: xs else x :: putX ks xs nm y
  | _, _, _, y => [y]
noncomputable def insOf (σ : St) : AV → Option (Addr × List Str × List AV)
  | .f (.ins c ks xs) => some (c, ks, xs.map .f)
  | .ref i => match σ.heap[i]? with
    | some (.ins c ks xs) => some (c, ks, xs)
    | _ => none
  | _ => none

theorem isStr_key {v : Value} {k nm : Str} {t : Tok} (h : v = .str k t) : v.isStr nm = decide (k = nm) := by
  subst h
  show (k == nm) = _
  by_cases e : k = nm
  · rw [e, beq_self_eq_true, decide_eq_true rfl]
  · rw [beq_eq_false_iff_ne.mpr e, decide_eq_false e]

theorem vr_handed {prog : Program} {w : World} {Z : Fz} {φ : List Addr} {x : AV} {v : Value} (h : VR prog w Z φ x v) : handedIn v = true := by
  cases h with
  | ref _ => rfl
  | f h => cases h with
    | cst h => exact h
    | _ => rfl

theorem key_isStr {e : DictEntry} {k nm : Str} {t : Tok} (h : e.key = .str k t) (c : k ≠ nm) : e.key.isStr nm = false := by
  rw [isStr_key h]; exact decide_eq_false c
theorem key_isStr' {e : DictEntry} {k : Str} {t : Tok} (h : e.key = .str k t) : e.key.isStr k = true := by
  rw [isStr_key h]; exact decide_eq_true rfl
theorem find_no {e : DictEntry} {es : List DictEntry} {nm : Str} (h : e.key.isStr nm = false) : (e :: es).find? (·.key.isStr nm) = es.find? (·.key.isStr nm) := by
  rw [List.find?_cons, h]
theorem find_yes {e : DictEntry} {es : List DictEntry} {nm : Str} (h : e.key.isStr nm = true) : (e :: es).find? (·.key.isStr nm) = some e := by
  rw [List.find?_cons, h]
/-- what holds of all entries -/
theorem ERs.keys {prog : Program} {w : World} {Z : Fz} {φ : List Addr} {ks : List Str} {xs : List AV} {es : List DictEntry} (h : ERs prog w Z φ ks xs es) : ∀ e ∈ es, ∃ k t, e.key = .str k t ∧ k ∈ ks := by
  induction h with
  | nil => exact fun _ h => nomatch h
  | cons a _ _ ih => exact List.forall_mem_cons.mpr ⟨⟨_, _, a, .head _⟩, fun e he => let ⟨k, t, h, m⟩ := ih e he; ⟨k, t, h, .tail _ m⟩⟩
  | shared a _ ih => exact List.forall_mem_cons.mpr ⟨⟨_, _, a, .head _⟩, fun e he => let ⟨k, t, h, m⟩ := ih e he; ⟨k, t, h, .tail _ m⟩⟩
theorem ERs.refKey {prog : Program} {w : World} {Z : Fz} {φ : List Addr} {ks : List Str} {xs : List AV} {es : List DictEntry} (h : ERs prog w Z φ ks xs es) : es.any (·.refKey) = false :=
  List.any_eq_false.mpr fun e he q => by
    obtain ⟨k, t, h, _⟩ := h.keys e he
    rw [DictEntry.refKey, h] at q
    cases q
theorem ERs.get {prog : Program} {w : World} {Z : Fz} {φ : List Addr} {nm : Str} (hn : nm ≠ "shared") {ks : List Str} {xs : List AV} {es : List DictEntry} {y : AV} (h : ERs prog w Z φ ks xs es) (q : fieldOf ks xs nm = some y) :
    ∃ e, es.find? (·.key.isStr nm) = some e ∧ VR prog w Z φ y e.val := by
  induction h with
  | nil => cases q
  | cons h v _ ih =>
    change (if _ = nm then _ else _) = _ at q
    split at q
    · next c => subst c; cases q; exact ⟨_, find_yes (key_isStr' h), v⟩
    · next c => rw [find_no (key_isStr h c)]; exact ih q
  | shared h _ ih =>
    change (if _ = nm then _ else _) = _ at q
    rw [if_neg hn.symm] at q
    rw [find_no (key_isStr h hn.symm)]; exact ih q
theorem ERs.none {prog : Program} {w : World} {Z : Fz} {φ : List Addr} {nm : Str} {ks : List Str} {xs : List AV} {es : List DictEntry} (h : ERs prog w Z φ ks xs es) (q : nm ∉ ks) : es.find? (·.key.isStr nm) = .none :=
  List.find?_eq_none.mpr fun e he => by
    obtain ⟨k, t, h, m⟩ := h.keys e he
    rw [key_isStr h (fun c : k = nm => q (c ▸ m))]; decide
theorem ERs.put {prog : Program} {w : World} {Z : Fz} {φ : List Addr} {nm : Str} {y : AV} {v : Value} {hsh : Int} {t : Tok} (hv : VR prog w Z φ y v) {ks : List Str} {xs : List AV} {es : List DictEntry} (h : ERs prog w Z φ ks xs es) :
    ERs prog w Z φ (putK ks nm) (putX ks xs nm y) (putL nm hsh (.str nm t) v es) := by
  induction h with
  | nil => exact .cons rfl hv .nil
  | @cons k _ _ _ _ _ _ h u r ih =>
    unfold putK putX putL
    rw [isStr_key h]
    by_cases c : k = nm
    · rw [if_pos c, if_pos c, if_pos (decide_eq_true c)]
      exact .cons (by rw [h, c]) hv r
    · rw [if_neg c, if_neg c, if_neg (by rw [decide_eq_false c]; decide)]
      exact .cons h u ih
  | shared h r ih =>
    unfold putK putX putL
    rw [isStr_key h]
    by_cases c : ("shared" : Str) = nm
    · rw [if_pos c, if_pos c, if_pos (decide_eq_true c)]
      exact .cons h hv r
    · rw [if_neg c, if_neg c, if_neg (by rw [decide_eq_false c]; decide)]
      exact .shared h ih
theorem ERs.len {prog : Program} {w : World} {Z : Fz} {φ : List Addr} {ks : List Str} {xs : List AV} {es : List DictEntry} (h : ERs prog w Z φ ks xs es) : ks.length = es.length := by
  induction h with
  | nil => rfl
  | cons _ _ _ ih => exact congrArg (· + 1) ih
  | shared _ _ ih => exact congrArg (· + 1) ih
theorem putL_len {nm : Str} {hsh : Int} {k v : Value} : ∀ es : List DictEntry, (putL nm hsh k v es).length ≤ es.length + 1
  | [] => Nat.le_refl _
  | e :: es => by
    unfold putL
    split
    · simp
    · rw [List.length_cons, List.length_cons]; have := putL_len (nm := nm) (hsh := hsh) (k := k) (v := v) es; omega
theorem DS.put {hsh : Int} {t : Tok} {v : Value} : ∀ {es : List DictEntry}, (∃ e ∈ es, ∃ t, e.key = .str "shared" t) → (∀ e ∈ es, ∃ k t, e.key = .str k t) → DS es (putL "shared" hsh (.str "shared" t) v es)
  | [], h, _ => by obtain ⟨e, he, _⟩ := h; cases he
  | e :: es, h, k => by
    obtain ⟨kk, tt, hk⟩ := k e (.head _)
    unfold putL
    rw [isStr_key hk]
    by_cases c : kk = "shared"
    · simp only [c, decide_true, if_true]
      subst c
      exact .shared hk hk (DS.refl es)
    · simp only [c, decide_false, Bool.false_eq_true, if_false]
      refine .same (DS.put ?_ fun e he => k e (.tail _ he))
      obtain ⟨e', he, t', h'⟩ := h
      rcases List.mem_cons.mp he with rfl | he
      · rw [hk] at h'; injection h' with h'; exact absurd h' c
      · exact ⟨e', he, t', h'⟩
theorem EFs.keys {prog : Program} {w : World} {Z : Fz} {ks : List Str} {xs : List FV} {es : List DictEntry} (h : EFs prog w Z ks xs es) : (∀ e ∈ es, ∃ k t, e.key = .str k t) ∧ (("shared" : Str) ∈ ks → ∃ e ∈ es, ∃ t, e.key = .str "shared" t) := by
  replace h := h.ers (φ := [])
  refine ⟨fun e he => let ⟨k, t, h, _⟩ := h.keys e he; ⟨k, t, h⟩, ?_⟩

  generalize xs.map AV.f = ys at h
  induction h with
  | nil => exact fun h => nomatch h
  | cons a _ _ ih => exact fun hm => (List.mem_cons.mp hm).elim (fun e => ⟨_, .head _, _, e ▸ a⟩) fun hm => let ⟨x, hx, q⟩ := ih hm; ⟨x, .tail _ hx, q⟩
  | shared a _ ih => exact fun _ => ⟨_, .head _, _, a⟩

section
variable {g : Gl} {C : Cx} {X : XC} {σ : St} {n : Nat} {Y : Led} {Z : Fz} {W : List Ent} {h : Heap} {mF : Str → Option Value} {kd Cs : Led}

theorem RelM.inst (r : RelM g C Y Z W σ h mF kd Cs) {x : AV} {c : Addr} {ks : List Str} {xs : List AV} {v : Value} (hx : insOf σ x = some (c, ks, xs)) (hv : VR g.prog g.w Z (adr W) x v) :
    ∃ a dx es m, v = .ref a ∧ h.get? a = some (instObj c dx) ∧ h.get? dx = some (dictOf es m) ∧ ERs g.prog g.w Z (adr W) ks xs es := by
  cases hv with
  | f hf =>
    cases hf with
    | ins h1 h2 rs => cases hx; exact ⟨_, _, _, _, rfl, r.mem_z h1, r.mem_d h2, rs.ers⟩
    | _ => cases hx
  | ref hi =>
    unfold insOf at hx
    dsimp only at hx
    split at hx
    · rename_i hj
      injection hx with hx; cases hx
      obtain ⟨e, he, oe⟩ := r.or.get hj
      cases oe with
      | ins rs =>
        have := (adr_get he).symm.trans hi
        cases this
        exact ⟨_, _, _, _, rfl, (r.nw _ (r.mem_w he (.head _))).1, (r.nw _ (r.mem_w he (.tail _ (.head _)))).1, rs⟩
    · cases hx

theorem R_attr {value : Expr} {attr : Str} {pos : Pos} {Q : AV → St → Prop} (h : AW g C X (eval value C.env) (fun o σ₁ => AWh g C X (VR g.prog g.w) [o] (val1 fun o => getAttr o attr true) Q σ₁) σ)
    (he : eval (.Attribute value attr pos) C.env = (do
      let o ← eval value C.env
      standAt pos.atName
      let r ← holding [o] (getAttr o attr true)
      letTemporaryGo value o r
      pure r) := by with_unfolding_all rfl) : AW g C X (eval (.Attribute value attr pos) C.env) Q σ := by
  intro Y Z W hh tk r Qc Ec q e
  refine Attribute_any_ (h Y Z W hh tk r _ Ec (fun a σ₁ v₁ Z₁ W₁ h₁ t₁ p₁ r₁ f₁ w₁ x₁ => ?_) e) he
  exact p₁ Y Z₁ W₁ h₁ t₁ r₁ [v₁] (.cons x₁ .nil) Qc Ec (fun b σ' v Z' W' h' tk' hq r' f' w' x' => q b σ' v Z' W' h' tk' hq r' (f₁.trans f') (w₁.trans w') x') fun e' s' z => e e' s' (X.mono f₁ z)

theorem instAt {c a dx : Addr} {es : List DictEntry} {m : Nat} (h1 : h.get? a = some (instObj c dx)) (h2 : h.get? dx = some (dictOf es m)) : InstAt h a (instObj c dx) c (some (dictOf es m)) := ⟨h1, rfl, rfl, h2⟩

theorem A_get {x y : AV} {c : Addr} {nm : Str} {ks : List Str} {xs : List AV} {expr : Bool} {Q : AV → St → Prop} (ok : Ok g C n) (ci : CI g c nm) (hx : insOf σ x = some (c, ks, xs)) (hf : fieldOf ks xs nm = some y) (hn : nm ≠ "shared") (h : Q y σ) :
    AWh g C X (VR g.prog g.w) [x] (val1 fun o => getAttr o nm expr) Q σ :=
  AWh.here h fun Y Z W hh tk r vs hv Qc Ec q => by
    obtain ⟨v, rfl, h1⟩ := vrs1 hv
    obtain ⟨mF, kd, Cs, r⟩ := r
    obtain ⟨a, dx, es, m, rfl, h2, h3, h4⟩ := r.inst hx h1
    obtain ⟨e, he, hy⟩ := h4.get hn hf
    have hl : getL nm es = some (some e.val) := by unfold getL; rw [he]
    exact get_own r.fr ok.X (instAt h2 h3) ci.pg ci.hd ci.fi rfl hl (vr_handed hy) (q e.val hh (tk + 1) (fun _ _ e => e) hy)

theorem A_set {i : Nat} {y : AV} {c : Addr} {nm : Str} {ks : List Str} {xs : List AV} {Q : Unit → St → Prop} (ok : Ok g C n) (ci : CI g c nm) (hx : σ.heap[i]? = some (.ins c ks xs)) (hz : ks.length ≤ 900)
    (h : Q () ⟨σ.heap.set i (.ins c (putK ks nm) (putX ks xs nm y)), σ.loc⟩) : AWh g C X (fun _ _ (_ : Unit) _ => True) [.ref i, y] (val2 fun a b => setAttr a nm b) Q σ := by
  intro Y Z W hh tk r vs hv Qc Ec q e
  obtain ⟨v, u, rfl, h1, h2⟩ := vrs2 hv
  obtain ⟨mF, kd, Cs, r⟩ := r
  cases h1 with
  | ref hi =>
  obtain ⟨en, he, oe⟩ := r.or.get hx
  cases oe with
  | ins rs =>
  rename_i dx es a' m
  have := (adr_get he).symm.trans hi
  cases this
  obtain ⟨P, S, l1, l2⟩ := ledger_at (kd := kd) (Cs := Cs) (Y := Y) (Z := Z) he (pre := [(a', instObj c dx)]) (post := []) (d := dx) rfl
  have nd := r.nd
  have nw := r.nw
  rw [l1] at nd nw
  have sp := nodup_split nd
  have hl : (getL nm es).isSome = true := by
    unfold getL
    cases es.find? (·.key.isStr nm) with
    | some e => rfl
    | none => rw [rs.refKey]; rfl
  refine set_dict (s := g.mk' hh tk) r.fr ok.X nw (instAt (r.nw _ (r.mem_w he (.head _))).1 (r.nw _ (r.mem_w he (.tail _ (.head _)))).1) rfl ci.sa ci.po ci.tk ci.hd hl rfl (Upd.mk' sp.2.1 sp.1) (by have := putL_len (nm := nm) (hsh := PyData.keyHash g.w.params nm) (k := .str nm ((g.mk' hh tk).toks + 1)) (v := u) es; have := rs.len; omega) fun h' F N => ?_
  refine q () _ () Z (W.set i ⟨a', [(a', instObj c dx), (dx, dictOf (putL nm (PyData.keyHash g.w.params nm) (.str nm (tk + 1)) u es) (putN nm es m))]⟩) h' _ h ⟨mF, kd, Cs, ⟨F, by rw [l2 _ _ rfl]; exact N, by rw [l2 _ _ rfl]; exact sp.2.2 _, ?_, ?_⟩⟩ (FLe.refl Z) ?_ trivial
  · rw [adr_setL he]; exact r.lo
  · rw [adr_setL he]; exact r.or.set (.ins (rs.put h2)) i
  · rw [adr_setL he]; exact PLe.refl _

theorem M_ins {x : AV} {c f : Addr} {nm : Str} {ks : List Str} {xs : List AV} (ok : Ok g C n) (hg : plainGet g.K c nm = true) (hf : findIn g.K (.ref c) nm = some (some (.ref f))) (ht : isFn g.K (.ref f) = true) (hx : insOf σ x = some (c, ks, xs)) (hn : nm ∉ ks) : Meth g C σ x nm (.ref f) := by
  intro Y Z W h tk r v hv pl Qc Ec q
  obtain ⟨mF, kd, Cs, r⟩ := r
  obtain ⟨a, dx, es, m, rfl, h2, h3, h4⟩ := r.inst hx hv
  have hl : getL nm es = some none := by unfold getL; rw [h4.none hn, h4.refKey]; rfl
  exact method_inst r.fr ok.X (instAt h2 h3) hg hf ht hl (q tk)
end


noncomputable def allSome {α : Type} : List (Option α) → Option (List α)
  | [] => some []
  | some x :: r => match allSome r with
    | some l => some (x :: l)
    | none => none
  | none :: _ => none
/-- what b is when the objects from n on are frozen -/
noncomputable def toF : Nat → Nat → List HO → AV → Option FV
  | _, _, _, .f v => some v
  | 0, _, _, .ref _ => none
  | k + 1, n, T, .ref i => if n ≤ i then match T[i - n]? with
      | some (.lst xs) => match allSome (xs.map (toF k n T)) with
        | some l => some (.lst l)
        | none => none
      | some (.dct ks xs) => match allSome (xs.map (toF k n T)) with
        | some l => some (.dct ks l)
        | none => none
      | some (.ins c ks xs) => match allSome (xs.map (toF k n T)) with
        | some l => some (.ins c ks l)
        | none => none
      | _ => none
    else none
noncomputable def cl (n : Nat) : Option AV → Option AV
  | some (.ref i) => if i < n then some (.ref i) else none
  | u => u
noncomputable def NRv (n : Nat) : AV → Prop
  | .f _ => True
  | .ref i => i < n
noncomputable def NRo (n : Nat) : HO → Prop
  | .lst xs => ∀ x ∈ xs, NRv n x
  | .dct _ xs => ∀ x ∈ xs, NRv n x
  | .ins _ _ xs => ∀ x ∈ xs, NRv n x
  | .dead => True
noncomputable def zsOf (W : List Ent) : Led := W.flatMap fun e => e.own.take 1
noncomputable def dsOf (W : List Ent) : Led := W.flatMap fun e => e.own.drop 1

theorem zs_ds : ∀ W : List Ent, (zsOf W ++ dsOf W).Perm (led W)
  | [] => List.Perm.refl _
  | e :: W => by
    show ((e.own.take 1 ++ zsOf W) ++ (e.own.drop 1 ++ dsOf W)).Perm (e.own ++ led W)
    have h := zs_ds W
    have : ((e.own.take 1 ++ zsOf W) ++ (e.own.drop 1 ++ dsOf W)).Perm ((e.own.take 1 ++ e.own.drop 1) ++ (zsOf W ++ dsOf W)) := by
      simp only [List.append_assoc]
      exact List.Perm.append_left _ (List.perm_append_comm_assoc _ _ _)
    rw [List.take_append_drop] at this
    exact this.trans (List.Perm.append_left _ h)

section
variable {g : Gl} {C : Cx} {X : XC} {σ : St} {n : Nat} {Y : Led} {Z : Fz} {W : List Ent} {h : Heap} {mF : Str → Option Value} {kd Cs : Led}

theorem VR.shrink {φ φ₁ : List Addr} {x : AV} {v : Value} (hv : VR g.prog g.w Z φ x v) (hn : NRv φ₁.length x) (hp : PLe φ₁ φ) : VR g.prog g.w Z φ₁ x v := by
  cases hv with
  | f h => exact .f h
  | ref h =>
    obtain ⟨t, rfl⟩ := hp
    rw [List.getElem?_append_left hn] at h
    exact .ref h
theorem VRs.imp {Z' : Fz} {φ φ' : List Addr} {xs : List AV} {vs : List Value} (h : VRs g.prog g.w Z φ xs vs) (k : ∀ x ∈ xs, ∀ v, VR g.prog g.w Z φ x v → VR g.prog g.w Z' φ' x v) : VRs g.prog g.w Z' φ' xs vs := by
  induction h with
  | nil => exact .nil
  | cons a _ ih => exact .cons (k _ (.head _) _ a) (ih fun x hx => k x (.tail _ hx))
theorem ERs.imp {Z' : Fz} {φ φ' : List Addr} {ks : List Str} {xs : List AV} {es : List DictEntry} (h : ERs g.prog g.w Z φ ks xs es) (k : ∀ q ∈ ks.zip xs, q.1 ≠ "shared" → ∀ v, VR g.prog g.w Z φ q.2 v → VR g.prog g.w Z' φ' q.2 v) : ERs g.prog g.w Z' φ' ks xs es := by
  induction h with
  | nil => exact .nil
  | @cons nm _ _ _ _ _ _ a b _ ih =>
    have ih := ih fun q hq => k q (.tail _ hq)
    by_cases c : nm = "shared"
    · subst c; exact .shared a ih
    · exact .cons a (k _ (.head _) c _ b) ih
  | shared a _ ih => exact .shared a (ih fun q hq => k q (.tail _ hq))
theorem VRs.shrink {φ φ₁ : List Addr} (hp : PLe φ₁ φ) {xs : List AV} {vs : List Value} (h : VRs g.prog g.w Z φ xs vs) (k : ∀ x ∈ xs, NRv φ₁.length x) : VRs g.prog g.w Z φ₁ xs vs :=
  h.imp fun x hx _ a => a.shrink (k x hx) hp
theorem ERs.shrink {φ φ₁ : List Addr} (hp : PLe φ₁ φ) {ks : List Str} {xs : List AV} {es : List DictEntry} (h : ERs g.prog g.w Z φ ks xs es) (k : ∀ x ∈ xs, NRv φ₁.length x) : ERs g.prog g.w Z φ₁ ks xs es :=
  h.imp fun q hq _ _ a => a.shrink (k q.2 (List.of_mem_zip (a := q.1) (b := q.2) hq).2) hp
theorem OR.shrink {φ φ₁ : List Addr} {o : HO} {e : Ent} (hp : PLe φ₁ φ) (ho : OR g Z φ o e) (hn : NRo φ₁.length o) : OR g Z φ₁ o e := by
  cases ho with
  | lst l r => exact .lst l (r.shrink hp hn)
  | dct a b c r => exact .dct a b c (r.shrink hp hn)
  | ins r => exact .ins (r.shrink hp hn)
  | dead => exact .dead
theorem ORs.imp {Z' : Fz} {φ φ' : List Addr} {H : List HO} {W : List Ent} (h : ORs g Z φ H W) (k : ∀ o ∈ H, ∀ e, OR g Z φ o e → OR g Z' φ' o e) : ORs g Z' φ' H W := by
  induction h with
  | nil => exact .nil
  | cons a _ ih => exact .cons (k _ (.head _) _ a) (ih fun x hx => k x (.tail _ hx))
theorem ORs.shrink {φ φ₁ : List Addr} (hp : PLe φ₁ φ) {H : List HO} {W : List Ent} (h : ORs g Z φ H W) (k : ∀ o ∈ H, NRo φ₁.length o) : ORs g Z φ₁ H W :=
  h.imp fun o ho _ a => a.shrink hp (k o ho)
/-- an object that may be followed, by what is bound to it -/
theorem OV.of {Z' : Fz} {φ φ' : List Addr} {F : Option AV → Option AV} (k : ∀ x v, VR g.prog g.w Z φ x v → OV g Z' φ' (F (some x)) (some v)) (k0 : F none = none) (u : Option AV) (v : Option Value) (h : OV g Z φ u v) : OV g Z' φ' (F u) v := by
  cases u with
  | none => rw [k0]; trivial
  | some x => obtain ⟨w, rfl, h⟩ := h.get; exact k x w h
theorem SR.clean {φ φ₁ : List Addr} {m : Str → Option Value} (hp : PLe φ₁ φ) {ss : List Slot} {us : List (Option AV)} {Cs : Led} (h : SR g Z φ m ss us Cs) : SR g Z φ₁ m ss (us.map (cl φ₁.length)) Cs :=
  h.map _ (fun u _ v => OV.of (fun x w a => by
    cases x with
    | f x => exact a.shrink trivial hp
    | ref i =>
      show OV g Z φ₁ (if i < φ₁.length then some (.ref i) else none) (some w)
      split
      · next hi => exact a.shrink hi hp
      · trivial) rfl u v) fun _ _ => rfl
theorem Loc.clean {φ φ₁ : List Addr} {loc : List (Option AV)} (hp : PLe φ₁ φ) (l : Loc g C Z φ mF kd Cs loc) : Loc g C Z φ₁ mF kd Cs (loc.map (cl φ₁.length)) := by
  unfold Loc at *
  generalize C.mode = md at l ⊢
  cases md with
  | fn => exact ⟨l.1, l.2.clean hp⟩
  | cp Lc m₀ =>
    obtain ⟨h1, o, m, h2, h3, h4⟩ := l
    exact ⟨h1, o, m, h2, h3, h4.clean hp⟩

theorem ORs.split {H1 T : List HO} {W : List Ent} {φ : List Addr} (h : ORs g Z φ (H1 ++ T) W) : ORs g Z φ H1 (W.take H1.length) ∧ ORs g Z φ T (W.drop H1.length) := by
  induction H1 generalizing W with
  | nil => exact ⟨.nil, h⟩
  | cons x H1 ih => cases h with | cons a r => exact ⟨.cons a (ih r).1, (ih r).2⟩

theorem allSome_cons {α : Type} {o : Option α} {r : List (Option α)} {l : List α} (e : allSome (o :: r) = some l) : ∃ x l', o = some x ∧ allSome r = some l' ∧ l = x :: l' := by
  cases o with
  | none => cases e
  | some x =>
    change (match allSome r with | some l => some (x :: l) | none => none) = some l at e
    cases q : allSome r with
    | none => rw [q] at e; cases e
    | some l' => rw [q] at e; cases e; exact ⟨_, _, rfl, rfl, rfl⟩
theorem toF_sound {T : List HO} {WT : List Ent} {φ : List Addr} {n : Nat} {Z' : Fz} (f : FLe Z Z') (hz : ∀ q ∈ zsOf WT, q ∈ Z'.z) (hd : ∀ q ∈ dsOf WT, q ∈ Z'.d) (hT : ORs g Z φ T WT) (hφ : ∀ i e, WT[i]? = some e → φ[n + i]? = some e.a) :
    ∀ (k : Nat) (b : AV) (v : Value) (fv : FV), VR g.prog g.w Z φ b v → toF k n T b = some fv → VF g.prog g.w Z' fv v := by
  intro k
  induction k with
  | zero =>
    intro b v fv hv e
    cases hv with
    | f hv => cases e; exact hv.mono f
    | ref _ => cases e
  | succ k ih =>
    have all : ∀ {xs : List AV} {vs : List Value} {l : List FV}, VRs g.prog g.w Z φ xs vs → allSome (xs.map (toF k n T)) = some l → VFs g.prog g.w Z' l vs := by
      intro xs vs l h e
      induction h generalizing l with
      | nil => cases e; exact .nil
      | cons a r ih2 =>
        obtain ⟨_, _, q1, q2, rfl⟩ := allSome_cons e
        exact .cons (ih _ _ _ a q1) (ih2 q2)
    have allE : ∀ {ks : List Str} {xs : List AV} {es : List DictEntry} {l : List FV}, ERs g.prog g.w Z φ ks xs es → allSome (xs.map (toF k n T)) = some l → EFs g.prog g.w Z' ks l es := by
      intro ks xs es l h e
      induction h generalizing l with
      | nil => cases e; exact .nil
      | cons hk a r ih2 =>
        obtain ⟨_, _, q1, q2, rfl⟩ := allSome_cons e
        exact .cons hk (ih _ _ _ a q1) (ih2 q2)
      | shared hk r ih2 =>
        obtain ⟨_, _, q1, q2, rfl⟩ := allSome_cons e
        exact .shared hk (ih2 q2)
    intro b v fv hv e
    cases hv with
    | f hv => cases e; exact hv.mono f
    | ref hi =>
      rename_i i a
      unfold toF at e
      split at e
      · rename_i hni
        split at e
        · rename_i xs hx
          obtain ⟨en, he, oe⟩ := hT.get hx
          split at e
          · rename_i l hl
            cases e
            cases oe with
            | lst lo rs =>
              have := hφ _ _ he
              rw [Nat.add_sub_cancel' hni, hi] at this
              cases this
              exact .lst (hz _ (List.mem_flatMap.mpr ⟨_, List.mem_of_getElem? he, .head _⟩)) lo (all rs hl)
          · cases e
        · rename_i ks xs hx
          obtain ⟨en, he, oe⟩ := hT.get hx
          split at e
          · rename_i l hl
            cases e
            cases oe with
            | dct q1 q2 q3 rs =>
              have := hφ _ _ he
              rw [Nat.add_sub_cancel' hni, hi] at this
              cases this
              exact .dct q1 (hz _ (List.mem_flatMap.mpr ⟨_, List.mem_of_getElem? he, .head _⟩)) q2 q3 (all rs hl)
          · cases e
        · rename_i c ks xs hx
          obtain ⟨en, he, oe⟩ := hT.get hx
          split at e
          · rename_i l hl
            cases e
            cases oe with
            | ins rs =>
              have := hφ _ _ he
              rw [Nat.add_sub_cancel' hni, hi] at this
              cases this
              exact .ins (hz _ (List.mem_flatMap.mpr ⟨_, List.mem_of_getElem? he, .head _⟩)) (hd _ (List.mem_flatMap.mpr ⟨_, List.mem_of_getElem? he, .head _⟩)) (allE rs hl)
          · cases e
        · cases e
      · cases e

/-- the objects from H1 on are frozen; names that hold them are forgotten -/
theorem Rel.freeze' {H1 T : List HO} {loc : List (Option AV)} (r : Rel g C Y Z W ⟨H1 ++ T, loc⟩ h) (nr : ORs g Z (adr W) H1 (W.take H1.length) → PLe (adr (W.take H1.length)) (adr W) → (adr (W.take H1.length)).length = H1.length → ORs g Z (adr (W.take H1.length)) H1 (W.take H1.length)) :
    ∃ Z', Rel g C Y Z' (W.take H1.length) ⟨H1, loc.map (cl H1.length)⟩ h ∧ FLe Z Z' ∧ ∀ k b v fv, VR g.prog g.w Z (adr W) b v → toF k H1.length T b = some fv → VF g.prog g.w Z' fv v := by
  obtain ⟨mF, kd, Cs, r⟩ := r
  have hlen := r.or.len
  dsimp only at hlen
  rw [List.length_append] at hlen
  have hl1 : (W.take H1.length).length = H1.length := by rw [List.length_take]; omega
  have hadr : (adr (W.take H1.length)).length = H1.length := by unfold adr; rw [List.length_map, hl1]
  have hple : PLe (adr (W.take H1.length)) (adr W) := ⟨adr (W.drop H1.length), by rw [← adr_append, List.take_append_drop]⟩
  let Z' : Fz := ⟨Z.z ++ zsOf (W.drop H1.length), Z.d ++ dsOf (W.drop H1.length)⟩
  have f : FLe Z Z' := ⟨fun q hq => List.mem_append_left _ hq, fun a es m hq => ⟨es, m, List.mem_append_left _ hq, DS.refl es⟩⟩
  obtain ⟨o1, o2⟩ := ORs.split r.or
  have pm : (ledger kd Cs Y Z' (W.take H1.length)).Perm (ledger kd Cs Y Z W) := by
    unfold ledger
    refine List.Perm.append_left kd (List.Perm.append_left Cs (List.Perm.append_left Y ?_))
    have e : led W = led (W.take H1.length) ++ led (W.drop H1.length) := by rw [← led_append, List.take_append_drop]
    rw [e]
    show ((Z.z ++ zsOf (W.drop H1.length)) ++ ((Z.d ++ dsOf (W.drop H1.length)) ++ led (W.take H1.length))).Perm _
    simp only [List.append_assoc]
    refine List.Perm.append_left Z.z ?_
    refine (List.perm_append_comm_assoc _ _ _).trans (List.Perm.append_left Z.d ?_)
    rw [← List.append_assoc]
    exact ((zs_ds _).append_right _).trans List.perm_append_comm
  refine ⟨Z', ⟨mF, kd, Cs, ⟨r.fr, newsPerm r.nw pm, (pm.map _).nodup_iff.mpr r.nd, ?_, ?_⟩⟩, f, ?_⟩
  · have := (r.lo.clean hple).mono f (fun _ _ e => e)
    rw [hadr] at this; exact this
  · exact (nr o1 hple hadr).mono f (fun _ _ e => e)
  · refine toF_sound f (fun q hq => List.mem_append_right _ hq) (fun q hq => List.mem_append_right _ hq) o2 fun i e he => ?_
    have : W[H1.length + i]? = some e := by rw [List.getElem?_drop] at he; exact he
    exact adr_get this

theorem Rel.freeze {H1 T : List HO} {loc : List (Option AV)} (r : Rel g C Y Z W ⟨H1 ++ T, loc⟩ h) (nr : ∀ o ∈ H1, NRo H1.length o) :
    ∃ Z', Rel g C Y Z' (W.take H1.length) ⟨H1, loc.map (cl H1.length)⟩ h ∧ FLe Z Z' ∧ ∀ k b v fv, VR g.prog g.w Z (adr W) b v → toF k H1.length T b = some fv → VF g.prog g.w Z' fv v :=
  r.freeze' fun o1 p e => o1.shrink p (by rw [e]; exact nr)

theorem NRv.of {φ : List Addr} {x : AV} {v : Value} (h : VR g.prog g.w Z φ x v) : NRv φ.length x := by
  cases h with
  | f _ => trivial
  | ref h => exact (List.getElem?_eq_some_iff.mp h).1
theorem VRs.nr {φ : List Addr} {xs : List AV} {vs : List Value} (h : VRs g.prog g.w Z φ xs vs) : ∀ x ∈ xs, NRv φ.length x := by
  induction h with
  | nil => exact fun _ h => nomatch h
  | cons a _ ih => exact List.forall_mem_cons.mpr ⟨NRv.of a, ih⟩
theorem ERs.nr {φ : List Addr} {ks : List Str} {xs : List AV} {es : List DictEntry} (h : ERs g.prog g.w Z φ ks xs es) : ∀ q ∈ ks.zip xs, q.1 ≠ "shared" → NRv φ.length q.2 := by
  induction h with
  | nil => exact fun _ h => nomatch h
  | cons _ a _ ih => exact List.forall_mem_cons.mpr ⟨fun _ => NRv.of a, ih⟩
  | shared _ _ ih => exact List.forall_mem_cons.mpr ⟨fun c => absurd rfl c, ih⟩

/-- a result that is frozen with all that was made on the way -/
theorem AX.frz {t : Sem Flow} {P : FV → Prop} (hp : C.pl = false) (h : AX g C X t (fun fl σ' => ∃ b fv, retOf fl = some b ∧ toF 9 0 σ'.heap b = some fv ∧ P fv) σ) : AX g C X t (fun fl σ' => ∃ v, retOf fl = some (.f v) ∧ P v) σ := by
  refine AX.ghost (h.mono fun fl σ' ⟨b, fv, h1, h2, h3⟩ => ?_)
  intro Y Z W h v r x
  obtain ⟨H, loc⟩ := σ'
  obtain ⟨Z', r', f', k⟩ := Rel.freeze (H1 := []) (T := H) r (fun _ h => nomatch h)
  cases x with
  | next => cases h1; cases h2; exact ⟨.next, _, Z', _, ⟨.none, rfl, h3⟩, r', f', fun q => by rw [hp] at q; (cases q), .next⟩
  | brk => cases h1
  | cont => cases h1
  | ret hv => cases h1; exact ⟨.ret (.f fv), _, Z', _, ⟨fv, rfl, h3⟩, r', f', fun q => by rw [hp] at q; (cases q), .ret (.f (k 9 b _ fv hv h2))⟩
end

section
variable {g : Gl} {C : Cx} {X : XC} {σ : St} {n : Nat} {Y : Led} {Z : Fz} {W : List Ent} {h : Heap} {mF : Str → Option Value} {kd Cs : Led}

/-- what was bound to old objects is bound to old objects -/
theorem VR.shrink0 {Z₀ : Fz} {φ φ₁ : List Addr} {x : AV} {v v₀ : Value} (h0 : VR g.prog g.w Z₀ φ₁ x v₀) (hv : VR g.prog g.w Z φ x v) (hp : PLe φ₁ φ) : VR g.prog g.w Z φ₁ x v := hv.shrink (NRv.of h0) hp
theorem VRs.shrink0 {Z₀ : Fz} {φ φ₁ : List Addr} (hp : PLe φ₁ φ) {xs : List AV} {vs vs₀ : List Value} (h0 : VRs g.prog g.w Z₀ φ₁ xs vs₀) (h : VRs g.prog g.w Z φ xs vs) : VRs g.prog g.w Z φ₁ xs vs := h.shrink hp h0.nr
theorem ERs.shrink0 {Z₀ : Fz} {φ φ₁ : List Addr} (hp : PLe φ₁ φ) {ks : List Str} {xs : List AV} {es es₀ : List DictEntry} (h0 : ERs g.prog g.w Z₀ φ₁ ks xs es₀) (h : ERs g.prog g.w Z φ ks xs es) : ERs g.prog g.w Z φ₁ ks xs es :=
  h.imp fun q hq c _ a => a.shrink (h0.nr q hq c) hp
theorem OR.shrink0 {Z₀ : Fz} {φ φ₁ : List Addr} (hp : PLe φ₁ φ) {o : HO} {e e₀ : Ent} (a : OR g Z₀ φ₁ o e₀) (b : OR g Z φ o e) : OR g Z φ₁ o e := by
  cases b with
  | lst l rs => cases a with | lst _ ra => exact .lst l (VRs.shrink0 hp ra rs)
  | dct x1 x2 x3 rs => cases a with | dct _ _ _ ra => exact .dct x1 x2 x3 (VRs.shrink0 hp ra rs)
  | ins rs => cases a with | ins ra => exact .ins (ERs.shrink0 hp ra rs)
  | dead => exact .dead
theorem ORs.some {φ : List Addr} {H : List HO} {W : List Ent} (h : ORs g Z φ H W) : ∀ o ∈ H, ∃ e, OR g Z φ o e := by
  induction h with
  | nil => exact fun _ h => nomatch h
  | cons a _ ih => exact List.forall_mem_cons.mpr ⟨⟨_, a⟩, ih⟩
theorem ORs.shrink0 {Z₀ : Fz} {φ φ₁ : List Addr} (hp : PLe φ₁ φ) {H : List HO} {W W₀ : List Ent} (h0 : ORs g Z₀ φ₁ H W₀) (h : ORs g Z φ H W) : ORs g Z φ₁ H W :=
  h.imp fun o ho _ a => let ⟨_, b⟩ := h0.some o ho; b.shrink0 hp a
theorem SR.cl_id {φ : List Addr} {m : Str → Option Value} {ss : List Slot} {us : List (Option AV)} {Cs : Led} (h : SR g Z φ m ss us Cs) : us.map (cl φ.length) = us := by
  have ov : ∀ {u : Option AV} {v : Option Value}, OV g Z φ u v → cl φ.length u = u := by
    intro u v h
    cases u with
    | none => rfl
    | some x => cases x with
      | f x => rfl
      | ref i => obtain ⟨_, _, h⟩ := h.get; exact if_pos (NRv.of h)
  induction h with
  | nil => rfl
  | l a _ ih => rw [List.map_cons, ih, ov a]
  | c d a _ ih => rw [List.map_cons, ih, ov a]
  | d d a _ ih => rw [List.map_cons, ih, ov a]

/-- a result that is frozen with all that was made on the way -/
theorem AWh.frz {xs : List AV} {f : List Value → Sem Value} {Q : AV → St → Prop}
    (h : AWh g C X (VR g.prog g.w) xs f (fun b σ' => ∃ T fv, σ'.heap = σ.heap ++ T ∧ σ'.loc = σ.loc ∧ toF 9 σ.heap.length T b = some fv ∧ Q (.f fv) σ) σ) : AWh g C X (VR g.prog g.w) xs f Q σ := by
  intro Y Z W hh tk r vs hv Qc Ec q e
  refine h Y Z W hh tk r vs hv Qc Ec (fun b σ' v Z' W' h' tk' p r' f' w' x' => ?_) e
  obtain ⟨T, fv, e1, e2, e3, hq⟩ := p
  obtain ⟨H', loc'⟩ := σ'
  dsimp only at e1 e2
  subst e1 e2
  obtain ⟨mF, kd, Cs, r⟩ := r
  have hlen : σ.heap.length = W.length := r.or.len
  have hW : adr (W'.take σ.heap.length) = adr W := by
    obtain ⟨t, ht⟩ := w'
    unfold adr at ht ⊢
    rw [List.map_take, ht, hlen, ← List.length_map (f := (·.a)) (as := W), List.take_left]
  have hcl : σ.loc.map (cl σ.heap.length) = σ.loc := by
    have lo := r.lo
    have e : (adr W).length = σ.heap.length := by unfold adr; rw [List.length_map, hlen]
    unfold Loc at lo
    generalize C.mode = md at lo
    cases md with
    | fn => rw [← e]; exact lo.2.cl_id
    | cp Lc m₀ => obtain ⟨_, _, _, _, _, k⟩ := lo; rw [← e]; exact k.cl_id
  obtain ⟨Z₂, r₂, f₂, k⟩ := Rel.freeze' r' fun o1 p _ => by
    rw [hW] at p ⊢
    exact ORs.shrink0 p r.or o1
  rw [hcl] at r₂
  exact q (.f fv) σ v Z₂ _ h' tk' hq r₂ (f'.trans f₂) (by rw [hW]; exact PLe.refl _) (.f (k 9 b v fv x' e3))

/-- a new mutable object, more than one entry -/
theorem RelM.newWN (r : RelM g C Y Z W σ h mF kd Cs) {e : Ent} {x : HO} {h' : Heap} (F : Fr C.h₀ C.L h' mF) (N : News C.h₀ C.L h' (e.own ++ ledger kd Cs Y Z W)) (nd : ((e.own ++ ledger kd Cs Y Z W).map (·.1)).Nodup) (hx : OR g Z (adr W ++ [e.a]) x e) :
    RelM g C Y Z (W ++ [e]) { σ with heap := σ.heap ++ [x] } h' mF kd Cs := by
  have hg : ∀ (i : Nat) (b : Addr), (adr W)[i]? = some b → (adr (W ++ [e]))[i]? = some b := fun i b q => by rw [adr_append]; exact PLe.get ⟨_, rfl⟩ q
  have pm : (e.own ++ ledger kd Cs Y Z W).Perm (ledger kd Cs Y Z (W ++ [e])) := by rw [ledger_w]; exact List.perm_append_comm
  refine ⟨F, newsPerm N pm.symm, (pm.map _).nodup_iff.mp nd, r.lo.mono (FLe.refl _) hg, ?_⟩
  have z := r.or.mono (FLe.refl Z) hg
  rw [adr_append] at z ⊢
  have : ∀ {xs : List HO} {es : List Ent}, ORs g Z (adr W ++ adr [e]) xs es → ORs g Z (adr W ++ adr [e]) (xs ++ [x]) (es ++ [e]) := by
    intro xs es q
    induction q with
    | nil => exact .cons hx .nil
    | cons q _ ih => exact .cons q ih
  exact this z

theorem push_keeps (h : Heap) (o : Obj) : ∀ b o', h.get? b = some o' → (h.push o).get? b = some o' := fun b o' e => Heap.get?_push_of_some _ e
theorem push_new (h : Heap) : h.get? h.objs.size = none := by
  cases q : h.get? h.objs.size with
  | none => rfl
  | some o => exact absurd (Heap.lt_size q) (Nat.lt_irrefl _)

theorem newList_F {xs : List FV} {Q : AV → St → Prop} (hz : xs.length ≤ 2 ^ 20) (h : Q (.f (.lst xs)) σ) : AWh g C X (VR g.prog g.w) (xs.map .f) newList Q σ := by
  intro Y Z W hh tk r vs hv Qc Ec q e
  obtain ⟨mF, kd, Cs, r⟩ := r
  have hl := hv.len
  rw [List.length_map] at hl
  refine wpAny_newObj_type ?_ (by show vs.toArray.size ≤ sizeLine; rw [List.size_toArray, ← hl, sizeLine_eq]; omega)
  obtain ⟨r', f'⟩ := r.newZ (push_keeps hh (listOf vs.toArray 0)) (push_new hh) (Heap.get?_push_size hh rfl)
  exact q _ _ _ _ W _ tk h ⟨mF, kd, Cs, r'⟩ f' (PLe.refl _) (.f (.lst (.head _) ⟨0, rfl⟩ (hv.vfs.mono f')))
theorem newTuple_F {xs : List FV} {Q : AV → St → Prop} (hz : xs.length ≤ 2 ^ 20) (h : Q (.f (.tup xs)) σ) : AWh g C X (VR g.prog g.w) (xs.map .f) newTuple Q σ := by
  intro Y Z W hh tk r vs hv Qc Ec q e
  obtain ⟨mF, kd, Cs, r⟩ := r
  have hl := hv.len
  rw [List.length_map] at hl
  refine wpAny_newObj_type ?_ (by show vs.toArray.size ≤ sizeLine; rw [List.size_toArray, ← hl, sizeLine_eq]; omega)
  obtain ⟨r', f'⟩ := r.newZ (push_keeps hh (tupOf vs.toArray 0)) (push_new hh) (Heap.get?_push_size hh rfl)
  exact q _ _ _ _ W _ tk h ⟨mF, kd, Cs, r'⟩ f' (PLe.refl _) (.f (.tup (.head _) ⟨0, rfl⟩ (hv.vfs.mono f')))
theorem newList_M {xs : List AV} {Q : AV → St → Prop} (hz : xs.length ≤ 2 ^ 20) (h : Q (.ref σ.heap.length) ⟨σ.heap ++ [.lst xs], σ.loc⟩) : AWh g C X (VR g.prog g.w) xs newList Q σ := by
  intro Y Z W hh tk r vs hv Qc Ec q e
  obtain ⟨mF, kd, Cs, r⟩ := r
  have hl := hv.len
  have hW : σ.heap.length = W.length := r.or.len
  refine wpAny_newObj_type ?_ (by show vs.toArray.size ≤ sizeLine; rw [List.size_toArray, ← hl, sizeLine_eq]; omega)
  have p : PLe (adr W) (adr (W ++ [⟨hh.objs.size, [(hh.objs.size, listOf vs.toArray 0)]⟩])) := by rw [adr_append]; exact ⟨_, rfl⟩
  have r' := r.newW (x := .lst xs) (push_keeps hh (listOf vs.toArray 0)) (push_new hh) (Heap.get?_push_size hh rfl) (.lst ⟨0, rfl⟩ (hv.mono (FLe.refl Z) fun i b q => PLe.get ⟨_, rfl⟩ q))
  refine q _ _ _ Z _ _ tk h ⟨mF, kd, Cs, r'⟩ (FLe.refl Z) p (.ref ?_)
  rw [adr_append, hW]
  unfold adr
  rw [List.getElem?_append_right (by rw [List.length_map]; exact Nat.le_refl _), List.length_map, Nat.sub_self]
  rfl

theorem R_list {elts : List Expr} {pos : Pos} {Q : AV → St → Prop} (h : AWs g C X (spliced (backTo pos (starEach elts C.env))) (fun xs σ₁ => AWh g C X (VR g.prog g.w) xs newList Q σ₁) σ) : AW g C X (eval (.List elts pos) C.env) Q σ := by
  intro Y Z W hh tk rr Qc Ec q e
  refine List_ (h Y Z W hh tk rr _ Ec (fun a σ₁ v₁ Z₁ W₁ h₁ t₁ p₁ r₁ f₁ w₁ x₁ => ?_) e)
  exact p₁ Y Z₁ W₁ h₁ t₁ r₁ _ x₁ Qc Ec (fun b σ' v Z' W' h' tk' hq r' f' w' x' => q b σ' v Z' W' h' tk' hq r' (f₁.trans f') (w₁.trans w') x') fun e' s' z => e e' s' (X.mono f₁ z)
theorem R_tuple {elts : List Expr} {k : Nat} {pos : Pos} {Q : AV → St → Prop} (h : AWs g C X (spliced (backTo pos (starEach elts C.env))) (fun xs σ₁ => AWh g C X (VR g.prog g.w) xs newTuple Q σ₁) σ) : AW g C X (eval (.Tuple elts k pos) C.env) Q σ := by
  intro Y Z W hh tk rr Qc Ec q e
  refine Tuple_ (h Y Z W hh tk rr _ Ec (fun a σ₁ v₁ Z₁ W₁ h₁ t₁ p₁ r₁ f₁ w₁ x₁ => ?_) e)
  exact p₁ Y Z₁ W₁ h₁ t₁ r₁ _ x₁ Qc Ec (fun b σ' v Z' W' h' tk' hq r' f' w' x' => q b σ' v Z' W' h' tk' hq r' (f₁.trans f') (w₁.trans w') x') fun e' s' z => e e' s' (X.mono f₁ z)

/-- what K says of a class whose instances __init__ makes -/
structure CK (g : Gl) (c fI : Addr) : Prop where
  mkc : makesIn g.K c = true
  fi : findIn g.K (.ref c) "__init__" = some (some (.ref fI))
  fn : isFn g.K (.ref fI) = true

section
variable {name qual : Str} {params : Arguments} {body : List Stmt} {scope : Scope} {dV kV doc pm cdv ct : Value} {an : Option Addr} {f c : Addr}
theorem call_class (ok : Ok g C (n + 1)) (ck : CK g c f) (F : Fn g.K f name qual params body scope dV kV doc pm an cdv ct) {xs : List AV} {slots : List Slot} {loc₀ : List (Option AV)} (S : Sig g.K (fnOf name qual params body scope dV kV doc pm an cdv ct) (.ref σ.heap.length :: xs) slots loc₀)
    {Q : AV → St → Prop}
    (hb : ∀ C', Ok g C' n → C'.env = envOf qual scope C'.L f cdv → C'.mode = .fn → C'.slots = slots → C'.pl = true → AX g C' XC.no (execs body C'.env) (fun fl σ' => retOf fl = some .none ∧ Q (.ref σ.heap.length) ⟨σ'.heap, σ.loc⟩) ⟨σ.heap ++ [.ins c [] []], loc₀⟩) :
    AWh g C X (VR g.prog g.w) xs (fun vs => call (.ref c) vs) Q σ := by
  intro Y Z W hh tk r vs hv Qc Ec q e
  obtain ⟨mF, kd, Cs, r⟩ := r
  have hW : σ.heap.length = W.length := r.or.len
  have rd := ok.rd
  have ru := ok.ru
  refine call_cls (s := g.mk' hh tk) r.fr ok.X r.nw ck.mkc ck.fi ck.fn fun x dx h' F' N' hlt hdx => ?_
  let en : Ent := ⟨x, [(x, instObj c dx), (dx, dictOf [] 0)]⟩
  have p : PLe (adr W) (adr (W ++ [en])) := by rw [adr_append]; exact ⟨_, rfl⟩
  have nd : ((en.own ++ ledger kd Cs Y Z W).map (·.1)).Nodup := by
    show (x :: dx :: (ledger kd Cs Y Z W).map (·.1)).Nodup
    refine List.nodup_cons.mpr ⟨fun hm => ?_, List.nodup_cons.mpr ⟨fun hm => ?_, r.nd⟩⟩
    · rcases List.mem_cons.mp hm with hm | hm
      · exact absurd hdx (by rw [hm]; exact Nat.lt_irrefl _)
      · obtain ⟨q, hq, hm⟩ := List.mem_map.mp hm
        have := hlt q hq
        rw [hm] at this
        exact absurd (Nat.lt_trans this hdx) (Nat.lt_irrefl _)
    · obtain ⟨q, hq, hm⟩ := List.mem_map.mp hm
      have := hlt q hq
      rw [hm] at this
      exact absurd this (Nat.lt_irrefl _)
  have r' : Rel g C Y Z (W ++ [en]) ⟨σ.heap ++ [.ins c [] []], σ.loc⟩ h' := ⟨mF, kd, Cs, r.newWN F' N' nd (.ins .nil)⟩
  have hx : VR g.prog g.w Z (adr (W ++ [en])) (.ref σ.heap.length) (.ref x) := .ref (by
    rw [adr_append, hW]
    unfold adr
    rw [List.getElem?_append_right (by rw [List.length_map]; exact Nat.le_refl _), List.length_map, Nat.sub_self]
    rfl)
  refine fn_all (n' := n) (P := fun v H => v = .none ∧ Q (.ref σ.heap.length) ⟨H, σ.loc⟩) ok (A' := C.A.under (.builtin "type.__call__" ⟨.ref c :: vs, []⟩)) ?_ ok.hh ?_ ?_ F S (fun C' o1 o2 o3 o4 o5 => (hb C' o1 o2 o3 o4 o5).mono fun fl σ' ⟨h1, h2⟩ => ⟨_, h1, rfl, h2⟩) (tk := tk) r' (.cons hx (hv.up (FLe.refl Z) p)) ?_
  · exact (congrArg (pushEnvs []) ok.fr).trans rfl
  · show C.A.depth + 1 + 1 + 2 * n < recursionLimit
    omega
  · show C.A.units + 1 + 3 + 8 * n < cLine
    omega
  · rintro b H v Z' W' h'' tk' ⟨rfl, hq⟩ r'' f'' w'' x''
    cases vr_none x''
    exact ⟨rfl, q _ _ _ Z' W' h'' tk' hq r'' f'' (p.trans w'') (hx.up f'' w'')⟩
end

/-- v.shared = True, v frozen -/
theorem A_share {y : FV} {c : Addr} {ks : List Str} {xs : List FV} {Q : Unit → St → Prop} (ok : Ok g C n) (ci : CI g c "shared") (hk : ("shared" : Str) ∈ ks) (hz : ks.length ≤ 900)
    (h : Q () σ) : AWh g C X (fun _ _ (_ : Unit) _ => True) [.f (.ins c ks xs), .f y] (val2 fun a b => setAttr a "shared" b) Q σ := by
  intro Y Z W hh tk r vs hv Qc Ec q e
  obtain ⟨v, u, rfl, h1, h2⟩ := vrs2 hv
  obtain ⟨mF, kd, Cs, r⟩ := r
  cases h1 with
  | f h1 =>
  cases h1 with
  | ins hz1 hd1 rs =>
  rename_i dx es a m
  obtain ⟨d1, d2, hsp⟩ := List.append_of_mem hd1
  have rsE : ERs g.prog g.w Z (adr W) ks (xs.map .f) es := rs.ers
  have nd := r.nd
  have nw := r.nw
  let P := kd ++ (Cs ++ (Y ++ (Z.z ++ d1)))
  let S := d2 ++ led W
  have l1 : ledger kd Cs Y Z W = P ++ (dx, dictOf es m) :: S := by
    unfold ledger
    rw [hsp]
    simp only [P, S, List.append_assoc, List.cons_append]
  rw [l1] at nd nw
  have sp := nodup_split nd
  have hl : (getL "shared" es).isSome = true := by
    unfold getL
    cases es.find? (·.key.isStr "shared") with
    | some e => rfl
    | none => rw [rsE.refKey]; rfl
  refine set_dict (s := g.mk' hh tk) r.fr ok.X nw (instAt (r.mem_z hz1) (r.mem_d hd1)) rfl ci.sa ci.po ci.tk ci.hd hl rfl (Upd.mk' sp.2.1 sp.1) (by have := putL_len (nm := "shared") (hsh := PyData.keyHash g.w.params "shared") (k := .str "shared" ((g.mk' hh tk).toks + 1)) (v := u) es; have := rsE.len; omega) fun h' F N => ?_
  let es' := putL "shared" (PyData.keyHash g.w.params "shared") (.str "shared" (tk + 1)) u es
  let o' := dictOf es' (putN "shared" es m)
  let Z' : Fz := ⟨Z.z, d1 ++ (dx, o') :: d2⟩
  have hds : DS es es' := DS.put (rs.keys.2 hk) rs.keys.1
  have f : FLe Z Z' := ⟨fun _ h => h, fun b es₂ n₂ hq => by
    rw [hsp] at hq
    rcases List.mem_append.mp hq with hq | hq
    · exact ⟨es₂, n₂, List.mem_append_left _ hq, DS.refl _⟩
    · rcases List.mem_cons.mp hq with hq | hq
      · have e1 := (Prod.mk.inj hq).1
        have e2 := (Prod.mk.inj hq).2
        subst e1
        have e3 : es₂ = es := by
          have := congrArg Obj.data e2
          simp only [Data.dict.injEq] at this
          exact Array.toList_inj.mpr this.1 |> fun z => by simpa using z
        subst e3
        exact ⟨es', _, List.mem_append_right _ (.head _), hds⟩
      · exact ⟨es₂, n₂, List.mem_append_right _ (.tail _ hq), DS.refl _⟩⟩
  have l2 : ledger kd Cs Y Z' W = P ++ (dx, o') :: S := by
    unfold ledger
    simp only [Z', P, S, List.append_assoc, List.cons_append]
  refine q () _ () Z' W h' _ h ⟨mF, kd, Cs, ⟨F, by rw [l2]; exact N, by rw [l2]; exact sp.2.2 _, r.lo.mono f (fun _ _ e => e), r.or.mono f (fun _ _ e => e)⟩⟩ f (PLe.refl _) trivial
end


/-- look at a dict -/
noncomputable def dctOf (σ : St) : AV → Option (List Str × List AV)
  | .f (.dct ks xs) => some (ks, xs.map .f)
  | .ref i => match σ.heap[i]? with
    | some (.dct ks xs) => some (ks, xs)
    | _ => none
  | _ => none

theorem valueAt_zip {prog : Program} {w : World} {Z : Fz} {φ : List Addr} {k : Str} : ∀ {ks : List Str} {xs : List AV} {vs : List Value}, VRs prog w Z φ xs vs → ks.length = vs.length →
    (∀ y, fieldOf ks xs k = some y → ∃ v, valueAt (ks.zip vs) k = some v ∧ VR prog w Z φ y v) ∧ (fieldOf ks xs k = none → valueAt (ks.zip vs) k = none)
  | [], _, _, .nil, _ => ⟨(fun y h => by cases h), (fun _ => rfl)⟩
  | k' :: ks, _, _, .cons (x := x) (v := v) h r, hl => by
    have ih := valueAt_zip (k := k) r (by simpa using hl)
    unfold fieldOf valueAt
    rw [List.zip_cons_cons, List.find?_cons]
    by_cases c : k' = k
    · rw [if_pos c, decide_eq_true c]
      exact ⟨fun y e => by cases e; exact ⟨v, rfl, h⟩, fun e => by cases e⟩
    · rw [if_neg c, decide_eq_false c]
      exact ih
  | _ :: _, _, _, .nil, hl => by cases hl
  | [], _, _, .cons _ _, hl => by cases hl
theorem isSome_valueAt {k : Str} : ∀ {ks : List Str} {vs : List Value}, ks.length = vs.length → (valueAt (ks.zip vs) k).isSome = decide (k ∈ ks)
  | [], [], _ => rfl
  | k' :: ks, v :: vs, hl => by
    have ih := isSome_valueAt (k := k) (ks := ks) (vs := vs) (by simpa using hl)
    unfold valueAt at ih ⊢
    rw [List.zip_cons_cons, List.find?_cons]
    by_cases c : k' = k
    · rw [decide_eq_true c]; subst c; simp
    · rw [decide_eq_false c, ih]
      simp only [List.mem_cons]
      congr 1
      simp [Ne.symm c]
  | [], _ :: _, hl => by cases hl
  | _ :: _, [], hl => by cases hl

theorem stored_zip {k : Str} {v : Value} : ∀ {ks : List Str} {vs : List Value}, ks.length = vs.length → ks.Nodup → stored (ks.zip vs) k v = (putK ks k).zip (putX ks vs k v)
  | [], [], _, _ => by simp [stored, putK, putX]
  | k' :: ks, u :: vs, hl, nd => by
    have ih := stored_zip (k := k) (v := v) (ks := ks) (vs := vs) (by simpa using hl) (List.nodup_cons.mp nd).2
    by_cases c : k' = k
    · subst c
      have h1 : ∀ q ∈ ks.zip vs, ¬ q.1 = k' := fun q hq e => (List.nodup_cons.mp nd).1 (e ▸ (List.of_mem_zip hq).1)
      have h2 : (ks.zip vs).map (fun kv => if kv.1 = k' then (kv.1, v) else kv) = ks.zip vs := by
        conv => rhs; rw [← List.map_id (ks.zip vs)]
        exact List.map_congr_left fun q hq => if_neg (h1 q hq)
      unfold stored putK putX
      rw [List.zip_cons_cons]
      simp only [List.any_cons, decide_true, Bool.true_or, if_true, List.map_cons, h2, List.zip_cons_cons]
    · unfold stored at ih ⊢
      unfold putK putX
      rw [if_neg c, if_neg c, List.zip_cons_cons, List.zip_cons_cons, List.any_cons, decide_eq_false c, Bool.false_or, ← ih]
      split
      · rw [List.map_cons, if_neg c]
      · rfl
  | [], _ :: _, hl, _ => by cases hl
  | _ :: _, [], hl, _ => by cases hl
theorem putX_vrs {prog : Program} {w : World} {Z : Fz} {φ : List Addr} {k : Str} {y : AV} {v : Value} (hv : VR prog w Z φ y v) : ∀ {ks : List Str} {xs : List AV} {vs : List Value}, VRs prog w Z φ xs vs → ks.length = vs.length →
    VRs prog w Z φ (putX ks xs k y) (putX ks vs k v) ∧ (putK ks k).length = (putX ks vs k v).length
  | [], _, _, .nil, _ => ⟨.cons hv .nil, rfl⟩
  | k' :: ks, _, _, .cons h r, hl => by
    have ih := putX_vrs (k := k) hv r (ks := ks) (by simpa using hl)
    unfold putX putK
    by_cases c : k' = k
    · rw [if_pos c, if_pos c, if_pos c]; exact ⟨.cons hv r, hl⟩
    · rw [if_neg c, if_neg c, if_neg c]; exact ⟨.cons h ih.1, by rw [List.length_cons, List.length_cons, ih.2]⟩
  | _ :: _, _, _, .nil, hl => by cases hl
  | [], _, _, .cons _ _, hl => by cases hl

section
variable {g : Gl} {C : Cx} {X : XC} {σ : St} {n : Nat} {Y : Led} {Z : Fz} {W : List Ent} {h : Heap} {mF : Str → Option Value} {kd Cs : Led}

theorem RelM.dict (r : RelM g C Y Z W σ h mF kd Cs) {x : AV} {ks : List Str} {xs : List AV} {v : Value} (hx : dctOf σ x = some (ks, xs)) (hv : VR g.prog g.w Z (adr W) x v) :
    ∃ a vs, v = .ref a ∧ (a == sysModules) = false ∧ h.DictOf (strKind g.prog g.w) a (ks.zip vs) ∧ ks.length = vs.length ∧ VRs g.prog g.w Z (adr W) xs vs := by
  cases hv with
  | f hf =>
    cases hf with
    | dct hs hz i l rs => cases hx; exact ⟨_, _, rfl, hs, Heap.dictOf_iff.mpr ⟨_, r.mem_z hz, i⟩, l, rs.vrs⟩
    | _ => cases hx
  | ref hi =>
    unfold dctOf at hx
    dsimp only at hx
    split at hx
    · rename_i hj
      injection hx with hx; cases hx
      obtain ⟨e, he, oe⟩ := r.or.get hj
      cases oe with
      | dct hs i l rs =>
        have := (adr_get he).symm.trans hi
        cases this
        exact ⟨_, _, rfl, hs, Heap.dictOf_iff.mpr ⟨_, (r.nw _ (r.mem_w he (.head _))).1, i⟩, l, rs⟩
    · cases hx

theorem D_in {x : AV} {ks : List Str} {xs : List AV} {k : Str} {Q : AV → St → Prop} (hx : dctOf σ x = some (ks, xs)) (h : Q (.bool (decide (k ∈ ks))) σ) : AWh g C X (VR g.prog g.w) [.str k, x] (val2 (compareOp .In)) Q σ :=
  AWh.here h fun Y Z W hh tk r vs hv Qc Ec q => by
    obtain ⟨v, u, rfl, h1, h2⟩ := vrs2 hv
    obtain ⟨t, rfl⟩ := vr_str h1
    obtain ⟨mF, kd, Cs, r⟩ := r
    obtain ⟨a, vs, rfl, hs, hd, hl, hr⟩ := r.dict hx h2
    refine wpAny_in_of (strKind_is _ _ _ _) hs hd.mapOf ?_
    rw [isSome_valueAt hl]
    exact q (.bool _) hh _ (fun _ _ e => e) (.f .bool)
theorem D_notin {x : AV} {ks : List Str} {xs : List AV} {k : Str} {Q : AV → St → Prop} (hx : dctOf σ x = some (ks, xs)) (h : Q (.bool (!decide (k ∈ ks))) σ) : AWh g C X (VR g.prog g.w) [.str k, x] (val2 (compareOp .NotIn)) Q σ :=
  AWh.here h fun Y Z W hh tk r vs hv Qc Ec q => by
    obtain ⟨v, u, rfl, h1, h2⟩ := vrs2 hv
    obtain ⟨t, rfl⟩ := vr_str h1
    obtain ⟨mF, kd, Cs, r⟩ := r
    obtain ⟨a, vs, rfl, hs, hd, hl, hr⟩ := r.dict hx h2
    refine wpAny_notIn_of (strKind_is _ _ _ _) hs hd.mapOf ?_
    rw [isSome_valueAt hl]
    exact q (.bool _) hh _ (fun _ _ e => e) (.f .bool)
theorem G_dict {value slice : Expr} {x y : AV} {ks : List Str} {xs : List AV} {k : Str} {Q : AV → St → Prop} (hx : dctOf σ x = some (ks, xs)) (hy : fieldOf ks xs k = some y) (h : Q y σ)
    (hs : ∀ o i, subscripted slice false o i = operate [o, i] (getItem o i) := by intro _ _; with_unfolding_all rfl) : AWh g C X (VR g.prog g.w) [x, .str k] (val2 (subscriptTail value slice)) Q σ :=
  AWh.here h fun Y Z W hh tk r vs hv Qc Ec q => by
    obtain ⟨v, u, rfl, h1, h2⟩ := vrs2 hv
    obtain ⟨t, rfl⟩ := vr_str h2
    obtain ⟨mF, kd, Cs, r⟩ := r
    obtain ⟨a, vs, rfl, hsy, hd, hl, hr⟩ := r.dict hx h1
    obtain ⟨v, hv, hyv⟩ := (valueAt_zip hr hl).1 _ hy
    exact tail_any (s := g.mk' hh tk) hd.typeIs PySem.slot_dict_getitem.lookup (wpAny_getItem_of (s := g.mk' hh tk) (strKind_is _ _ _ _) hd.mapOf hv (q v hh _ (fun _ _ e => e) hyv)) (hs _ _)
theorem L_lenD {x : AV} {ks : List Str} {xs : List AV} {Q : AV → St → Prop} (hx : dctOf σ x = some (ks, xs)) (hz : ks.length < 2 ^ 62) (h : Q (.int ks.length) σ) : AWh g C X (VR g.prog g.w) [x] (fun vs => call (.builtin "len") vs) Q σ :=
  AWh.here h fun Y Z W hh tk r vs hv Qc Ec q => by
    obtain ⟨v, rfl, h1⟩ := vrs1 hv
    obtain ⟨mF, kd, Cs, r⟩ := r
    obtain ⟨a, vs, rfl, hs, hd, hl, hr⟩ := r.dict hx h1
    have e : (ks.zip vs).length = ks.length := by rw [List.length_zip]; omega
    have := q (.int (ks.length : Int) (tk + 1)) hh (tk + 1 + 1) (fun _ _ e => e) (.f .int)
    refine call_len_dict (s := g.mk' hh tk) (knd := strKind g.prog g.w) hs hd (by rw [e]; omega) ?_
    rw [e]; exact this
theorem M_dict {x : AV} {ks : List Str} {xs : List AV} {name : Str} {id : String} (hx : dctOf σ x = some (ks, xs)) (slot : PySem.Slot "dict" name id) (hty : typeOf (.builtin id) = pure (.type "method_descriptor")) : Meth g C σ x name (.builtin id) := by
  intro Y Z W h tk r v hv pl Qc Ec q
  obtain ⟨mF, kd, Cs, r⟩ := r
  obtain ⟨a, vs, rfl, hs, hd, hl, hr⟩ := r.dict hx hv
  exact getMethod_builtin (s := g.mk' h tk) hd.typeIs PySem.F.plainAttrs_dict slot hty hd.mapOf.noDict (q tk)
theorem L_get {x : AV} {ks : List Str} {xs : List AV} {k : Str} {Q : AV → St → Prop} (hx : dctOf σ x = some (ks, xs)) (h : Q ((fieldOf ks xs k).getD .none) σ) : AWh g C X (VR g.prog g.w) [x, .str k] (fun vs => call (.builtin "dict.get") vs) Q σ :=
  AWh.here h fun Y Z W hh tk r vs hv Qc Ec q => by
    obtain ⟨v, u, rfl, h1, h2⟩ := vrs2 hv
    obtain ⟨t, rfl⟩ := vr_str h2
    obtain ⟨mF, kd, Cs, r⟩ := r
    obtain ⟨a, vs, rfl, hs, hd, hl, hr⟩ := r.dict hx h1
    refine call_meetsIn (s := g.mk' hh tk) PySem.F.slot_dict_get hd.typeIs PySem.F.entry_dict_get (PySem.F.args_dict_get_2 _ _) (meets_dict_get (strKind g.prog g.w) a (strKind_is _ _ k t) hs) ⟨_, hd.mapOf, ?_⟩
    refine q _ hh (tk + 1) (fun _ _ e => e) ?_
    have vz := valueAt_zip (k := k) hr hl
    cases e : fieldOf ks xs k with
    | some y => obtain ⟨v, hv, hyv⟩ := vz.1 _ e; rw [hv]; exact hyv
    | none => rw [vz.2 e]; exact .f .none

theorem D_set {i : Nat} {ks : List Str} {xs : List AV} {k : Str} {x : AV} {Q : Unit → St → Prop} (hx : σ.heap[i]? = some (.dct ks xs)) (hz : ks.length ≤ 2 ^ 20) (h : Q () ⟨σ.heap.set i (.dct (putK ks k) (putX ks xs k x)), σ.loc⟩) :
    AWh g C X (fun _ _ (_ : Unit) _ => True) [.ref i, .str k, x] (fun vs => match vs with | [a, b, c] => setItem a b c | _ => unsupported "") Q σ := by
  intro Y Z W hh tk r vs hv Qc Ec q e
  cases hv with | cons k1 hv => cases hv with | cons k2 hv => cases hv with | cons k3 hv => cases hv with | nil =>
  rename_i v1 v2 v3
  obtain ⟨t, rfl⟩ := vr_str k2
  obtain ⟨mF, kd, Cs, r⟩ := r
  cases k1 with
  | ref hi =>
  obtain ⟨en, he, oe⟩ := r.or.get hx
  cases oe with
  | dct hs i2 hl rs =>
  rename_i vs a' o
  have := (adr_get he).symm.trans hi
  cases this
  have ho := (r.nw _ (r.mem_w he (.head _))).1
  have hd : hh.DictOf (strKind g.prog g.w) a' (ks.zip vs) := Heap.dictOf_iff.mpr ⟨_, ho, i2⟩
  have ez : (ks.zip vs).length = ks.length := by rw [List.length_zip]; omega
  refine wpAny_setItem_pairs (s := g.mk' hh tk) (hsz := by rw [ez, sizeLine_eq]; omega) (strKind_is _ _ k t) hd fun h' hd' hsb => ?_
  obtain ⟨o', ho', i'⟩ := Heap.dictOf_iff.mp hd'
  have nd : ks.Nodup := by
    obtain ⟨_, _, _, _, _, _, hn⟩ := i2
    have : (ks.zip vs).map (·.1) = ks := List.map_fst_zip (by omega)
    rwa [this] at hn
  rw [stored_zip hl nd] at i'
  obtain ⟨p1, p2⟩ := putX_vrs (k := k) k3 rs hl
  have r' := r.upd he (pre := []) (post := []) (o := o) (o' := o') (e' := ⟨a', [(a', o')]⟩) (x' := .dct (putK ks k) (putX ks xs k x)) rfl rfl rfl hsb ho' (.dct hs i' p2 p1)
  refine q () _ () Z _ h' _ h ⟨mF, kd, Cs, r'⟩ (FLe.refl Z) (by rw [adr_setL he]; exact PLe.refl _) trivial

theorem big_of (ok : Ok g C n) {a : Addr} (hk : (g.K.lookup a).isSome = true) (ha : sysModules ≤ a) : sysModules < C.h₀.objs.size := by
  cases e : g.K.lookup a with
  | none => rw [e] at hk; cases hk
  | some o => exact Nat.lt_of_le_of_lt ha (Heap.lt_size (ok.X _ _ e))

/-- a new empty dict, mutable -/
theorem R_dict0 {pos : Pos} {Q : AV → St → Prop} (hb : sysModules < C.h₀.objs.size) (h : Q (.ref σ.heap.length) ⟨σ.heap ++ [.dct [] []], σ.loc⟩) : AW g C X (eval (.Dict [] [] pos) C.env) Q σ := by
  intro Y Z W hh tk r Qc Ec q e
  obtain ⟨mF, kd, Cs, r⟩ := r
  have hW : σ.heap.length = W.length := r.or.len
  have hsy : (hh.objs.size == sysModules) = false := r.fr.notModules hb
  refine wpAny_Dict_empty ?_
  let o : Obj := { cls := .type "dict", data := .dict #[] }
  have hd : o.IsDictOf (strKind g.prog g.w) (([] : List Str).zip ([] : List Value)) := by
    obtain ⟨o₂, ho, hd⟩ := Heap.dictOf_iff.mp (Heap.DictOf.new (knd := strKind g.prog g.w) hh)
    rw [Heap.get?_push_size _ rfl] at ho
    rw [← Option.some.inj ho] at hd
    exact hd
  have p : PLe (adr W) (adr (W ++ [⟨hh.objs.size, [(hh.objs.size, o)]⟩])) := by rw [adr_append]; exact ⟨_, rfl⟩
  have r' := r.newW (x := .dct [] []) (push_keeps hh o) (push_new hh) (Heap.get?_push_size hh rfl) (.dct hsy hd rfl .nil)
  refine q _ _ _ Z _ _ tk h ⟨mF, kd, Cs, r'⟩ (FLe.refl Z) p (.ref ?_)
  rw [adr_append, hW]
  unfold adr
  rw [List.getElem?_append_right (by rw [List.length_map]; exact Nat.le_refl _), List.length_map, Nat.sub_self]
  rfl
end


theorem ledger_y {kd Cs Y : Led} {Z : Fz} {W : List Ent} (q : Addr × Obj) : (ledger kd Cs (q :: Y) Z W).Perm (q :: ledger kd Cs Y Z W) := perm_in (perm_in (List.Perm.refl _))

section
variable {g : Gl} {C : Cx} {X : XC} {σ : St} {n : Nat} {Y : Led} {Z : Fz} {W : List Ent} {h h' : Heap} {mF : Str → Option Value} {kd Cs : Led} {a : Addr} {o o' : Obj}

theorem RelM.newY (r : RelM g C Y Z W σ h mF kd Cs) (hk : ∀ b o, h.get? b = some o → h'.get? b = some o) (hn : h.get? a = none) (ho : h'.get? a = some o) : RelM g C ((a, o) :: Y) Z W σ h' mF kd Cs := by
  refine ⟨r.fr.keeps hk, newsPerm (r.news1 hk hn ho) (ledger_y _), ?_, r.lo, r.or⟩
  rw [((ledger_y (a, o)).map (·.1)).nodup_iff, List.map_cons, List.nodup_cons]
  refine ⟨fun hm => ?_, r.nd⟩
  obtain ⟨p, hp, e⟩ := List.mem_map.mp hm
  exact (r.fresh hn).2.2 p hp e
theorem RelM.dropY (r : RelM g C ((a, o) :: Y) Z W σ h mF kd Cs) : RelM g C Y Z W σ h mF kd Cs := by
  have pm := ledger_y (kd := kd) (Cs := Cs) (Y := Y) (Z := Z) (W := W) (a, o)
  refine ⟨r.fr, fun q hq => r.nw q (pm.symm.mem_iff.mp (.tail _ hq)), ?_, r.lo, r.or⟩
  have := (pm.map (·.1)).nodup_iff.mp r.nd
  exact (List.nodup_cons.mp this).2
theorem RelM.headY (r : RelM g C ((a, o) :: Y) Z W σ h mF kd Cs) : h.get? a = some o ∧ a ≠ C.L ∧ C.h₀.get? a = none ∧ ∀ p ∈ ledger kd Cs Y Z W, p.1 ≠ a := by
  have pm := ledger_y (kd := kd) (Cs := Cs) (Y := Y) (Z := Z) (W := W) (a, o)
  have := r.nw (a, o) (pm.symm.mem_iff.mp (.head _))
  refine ⟨this.1, this.2.1, this.2.2, fun p hp e => ?_⟩
  have nd := (pm.map (·.1)).nodup_iff.mp r.nd
  exact (List.nodup_cons.mp nd).1 (List.mem_map.mpr ⟨p, hp, e⟩)
theorem RelM.turnY (r : RelM g C ((a, o) :: Y) Z W σ h mF kd Cs) (hs : Heap.SameBut a h h') (hg : h'.get? a = some o') : RelM g C ((a, o') :: Y) Z W σ h' mF kd Cs := by
  have e1 : ∀ o, ledger kd Cs ((a, o) :: Y) Z W = (kd ++ Cs) ++ (a, o) :: (Y ++ (Z.z ++ (Z.d ++ led W))) := fun o => by unfold ledger; simp
  obtain ⟨F, N, D⟩ := r.swap (e1 o) hs hg
  rw [← e1 o'] at N D
  exact ⟨F, N, D, r.lo, r.or⟩
theorem fr_ext {h₀ : Heap} {L : Addr} {m : Str → Option Value} (F : Fr h₀ L h m) (hs : Heap.ExtBut a h h') (hL : a ≠ L) (hn : h₀.get? a = none) : Fr h₀ L h' m := by
  obtain ⟨⟨oL, es, ep, hL', r⟩, k, ab⟩ := F
  refine ⟨⟨oL, es, ep, hs _ _ (Ne.symm hL) hL', r⟩, fun b o e => hs b o (fun q => ?_) (k b o e), ab⟩
  rw [q, hn] at e; cases e
theorem RelM.extY (r : RelM g C ((a, o) :: Y) Z W σ h mF kd Cs) (hs : Heap.ExtBut a h h') : RelM g C Y Z W σ h' mF kd Cs := by
  obtain ⟨h1, h2, h3, h4⟩ := r.headY
  have r' := r.dropY
  exact ⟨fr_ext r.fr hs h2 h3, fun q hq => ⟨hs _ _ (h4 q hq) (r'.nw q hq).1, (r'.nw q hq).2⟩, r'.nd, r'.lo, r'.or⟩
theorem RelM.swapY {q : Addr × Obj} (r : RelM g C ((a, o) :: q :: Y) Z W σ h mF kd Cs) : RelM g C (q :: (a, o) :: Y) Z W σ h mF kd Cs := by
  have pm : (ledger kd Cs ((a, o) :: q :: Y) Z W).Perm (ledger kd Cs (q :: (a, o) :: Y) Z W) := by
    unfold ledger
    exact List.Perm.append_left kd (List.Perm.append_left Cs ((List.Perm.swap q (a, o) Y).append_right _))
  exact ⟨r.fr, newsPerm r.nw pm.symm, (pm.map _).nodup_iff.mp r.nd, r.lo, r.or⟩
/-- a list kept aside is now frozen, mutable -/
theorem RelM.moveZ (r : RelM g C ((a, o) :: Y) Z W σ h mF kd Cs) : RelM g C Y ⟨(a, o) :: Z.z, Z.d⟩ W σ h mF kd Cs ∧ FLe Z ⟨(a, o) :: Z.z, Z.d⟩ := by
  have f : FLe Z ⟨(a, o) :: Z.z, Z.d⟩ := ⟨fun q hq => .tail _ hq, fun _ es n hq => ⟨es, n, hq, DS.refl es⟩⟩
  have pm := (ledger_y (kd := kd) (Cs := Cs) (Y := Y) (Z := Z) (W := W) (a, o)).trans (ledger_z (a, o)).symm
  exact ⟨⟨r.fr, newsPerm r.nw pm.symm, (pm.map _).nodup_iff.mp r.nd, r.lo.mono f (fun _ _ e => e), r.or.mono f (fun _ _ e => e)⟩, f⟩
theorem RelM.moveW (r : RelM g C ((a, o) :: Y) Z W σ h mF kd Cs) {x : HO} (hx : OR g Z (adr W ++ [a]) x ⟨a, [(a, o)]⟩) : RelM g C Y Z (W ++ [⟨a, [(a, o)]⟩]) ⟨σ.heap ++ [x], σ.loc⟩ h mF kd Cs := by
  have pm := ledger_y (kd := kd) (Cs := Cs) (Y := Y) (Z := Z) (W := W) (a, o)
  exact r.dropY.newWN (e := ⟨a, [(a, o)]⟩) r.fr (newsPerm r.nw pm.symm) ((pm.map _).nodup_iff.mp r.nd) hx

/-- what may be walked through -/
structure Itr (g : Gl) (C : Cx) (x : AV) (xs : List FV) (Pr : Fz → Nat → Addr → Obj → Prop) : Prop where
  mono : ∀ {Z Z' i it o}, FLe Z Z' → Pr Z i it o → Pr Z' i it o
  start : ∀ σ Y Z W h tk, Rel g C Y Z W σ h → ∀ v, VR g.prog g.w Z (adr W) x v → ∀ (Q : Value → Shared → Prop) E,
    (∀ it o h', h.get? it = none → (∀ b o, h.get? b = some o → h'.get? b = some o) → h'.get? it = some o → Pr Z 0 it o → Q (.ref it) (g.mk' h' tk)) → wpAny (model g.prog g.w) C.A (pyIter v) Q E (g.mk' h tk)
  self : ∀ h tk it o i Z, h.get? it = some o → Pr Z i it o → ∀ (Q : Value → Shared → Prop) E, Q (.ref it) (g.mk' h tk) → wpAny (model g.prog g.w) C.A (pyIter (.ref it)) Q E (g.mk' h tk)
  item : ∀ i y, xs[i]? = some y → ∀ h tk it o Z, (∀ q ∈ Z.z, h.get? q.1 = some q.2) → h.get? it = some o → Pr Z i it o → ∀ (Q : Option Value → Shared → Prop) E,
    (∀ v o' h' tk', VF g.prog g.w Z y v → Pr Z (i + 1) it o' → Heap.SameBut it h h' → h'.get? it = some o' → Q (some v) (g.mk' h' tk')) → wpAny (model g.prog g.w) C.A (pyNext (.ref it)) Q E (g.mk' h tk)
  done : ∀ i, xs[i]? = none → ∀ h tk it o Z, (∀ q ∈ Z.z, h.get? q.1 = some q.2) → h.get? it = some o → Pr Z i it o → ∀ (Q : Option Value → Shared → Prop) E,
    (∀ h' tk', Heap.ExtBut it h h' → Q none (g.mk' h' tk')) → wpAny (model g.prog g.w) C.A (pyNext (.ref it)) Q E (g.mk' h tk)
  own : ∀ h tk it o i Z elts k pos T, h.get? it = some o → Pr Z i it o → ∀ (Q : Unit → Shared → Prop) E, Q () (g.mk' h tk) → wpAny (model g.prog g.w) C.A (letOwnedTupleGo (.Tuple elts k pos) (.ref it) (.ref T)) Q E (g.mk' h tk)

theorem VFs.get {prog : Program} {w : World} {Z : Fz} : ∀ {xs : List FV} {vs : List Value} {i : Nat} {x : FV}, VFs prog w Z xs vs → xs[i]? = some x → ∃ v, vs[i]? = some v ∧ VF prog w Z x v
  | _, _, _, _, .nil, h => by simp at h
  | _, _, 0, _, .cons a _, h => by cases h; exact ⟨_, rfl, a⟩
  | _, _, i + 1, _, .cons _ r, h => by
    obtain ⟨v, h1, h2⟩ := VFs.get (i := i) r (by simpa using h)
    exact ⟨v, by simpa using h1, h2⟩

inductive PrL (g : Gl) (xs : List FV) (Z : Fz) (i : Nat) (it : Addr) (o : Obj) : Prop
  | mk (l : Addr) (vs : List Value) (lo : Obj) (h1 : (l, lo) ∈ Z.z) (h2 : LO lo vs) (h3 : VFs g.prog g.w Z xs vs) (h4 : o.cls = .type "list_iterator") (h5 : o.data = .fields #[.ref l, .int i 0])
theorem Itr.list (ok : Ok g C n) (xs : List FV) : Itr g C (.f (.lst xs)) xs (PrL g xs) where
  mono f := by rintro ⟨l, vs, lo, h1, h2, h3, h4, h5⟩; exact ⟨l, vs, lo, f.z _ h1, h2, h3.mono f, h4, h5⟩
  start := by
    intro σ Y Z W h tk r v hv Q E k
    obtain ⟨mF, kd, Cs, r⟩ := r
    cases hv with | f hv => cases hv with | lst hz lo hr =>
    exact wpAny_pyIter_list (s := g.mk' h tk) (lo.is (r.mem_z hz)) (k _ _ _ (push_new h) (push_keeps h _) (Heap.get?_push_size h rfl) ⟨_, _, _, hz, lo, hr, rfl, rfl⟩)
  self := by
    rintro h tk it o i Z ho ⟨l, vs, lo, h1, h2, h3, h4, h5⟩ Q E k
    exact wpAny_pyIter_listiter (s := g.mk' h tk) ⟨o, ho, h4, h5⟩ k
  item := by
    rintro i y hy h tk it o Z hz ho ⟨l, vs, lo, h1, h2, h3, h4, h5⟩ Q E k
    obtain ⟨v, hv, hr⟩ := h3.get hy
    refine wpAny_pyNext_list_item (s := g.mk' h tk) ⟨o, ho, h4, h5⟩ (h2.is (hz _ h1)) (by simpa using hv) fun h' hit hs => ?_
    obtain ⟨o', ho', h6, h7⟩ := hit
    exact k v o' h' tk hr ⟨l, vs, lo, h1, h2, h3, h6, h7⟩ hs ho'
  done := by
    rintro i hy h tk it o Z hz ho ⟨l, vs, lo, h1, h2, h3, h4, h5⟩ Q E k
    refine wpAny_pyNext_list_end (s := g.mk' h tk) ok.hh ⟨o, ho, h4, h5⟩ (h2.is (hz _ h1)) ?_ fun h' hs => k h' tk hs
    have := h3.len
    rw [List.getElem?_eq_none_iff] at hy
    simp only [List.getElem?_toArray, List.getElem?_eq_none_iff]
    omega
  own := by
    rintro h tk it o i Z elts kk pos T ho ⟨l, vs, lo, h1, h2, h3, h4, h5⟩ Q E k
    exact wpAny_letOwnedTupleGo_listiter (s := g.mk' h tk) ⟨o, ho, h4, h5⟩ k

noncomputable def rangeL (a b : Int) : List FV := (List.range (b - a).toNat).map fun (i : Nat) => .int (a + (i : Int))
theorem rangeL_get {a b : Int} {i : Nat} {y : FV} (h : (rangeL a b)[i]? = some y) : y = .int (a + i) ∧ i < (b - a).toNat := by
  unfold rangeL at h
  rw [List.getElem?_map] at h
  cases e : (List.range (b - a).toNat)[i]? with
  | none => rw [e] at h; cases h
  | some j =>
    rw [e] at h
    obtain ⟨h1, h2⟩ := List.getElem?_eq_some_iff.mp e
    rw [List.getElem_range] at h2
    rw [List.length_range] at h1
    subst h2
    exact ⟨(Option.some.inj h).symm, h1⟩
theorem rangeL_none {a b : Int} {i : Nat} (h : (rangeL a b)[i]? = none) : (b - a).toNat ≤ i := by
  rw [List.getElem?_eq_none_iff] at h
  unfold rangeL at h
  rwa [List.length_map, List.length_range] at h
noncomputable def PrR (a b : Int) (Z : Fz) (i : Nat) (it : Addr) (o : Obj) : Prop := o = { cls := .type "range_iterator", dict := none, data := .fields #[rawInt (a + i), rawInt ((b - a).toNat - i), rawInt 1], slots := #[] }
theorem fits_long {a : Int} (h : a.natAbs < 2 ^ 21) : Builtin.Range.rangeFitsLong a = true := by
  unfold Builtin.Range.rangeFitsLong
  rw [Bool.and_eq_true, decide_eq_true_eq, decide_eq_true_eq]
  omega
theorem toNat_abs : ∀ a : Int, a.toNat ≤ a.natAbs
  | .ofNat _ => Nat.le_refl _
  | .negSucc _ => Nat.zero_le _
theorem sub_small {a b : Int} {m : Nat} (h1 : a.natAbs < m) (h2 : b.natAbs < m) : (b - a).toNat < m + m :=
  Nat.lt_of_le_of_lt (Nat.le_trans (toNat_abs _) (Int.natAbs_sub_le b a)) (Nat.add_lt_add h2 h1)
theorem range_small {a b : Int} (h1 : a.natAbs < 2 ^ 20) (h2 : b.natAbs < 2 ^ 20) : Builtin.Range.small a b 1 = true := by
  have k2 := fits_long (Nat.lt_trans h2 (by decide))
  unfold Builtin.Range.small
  rw [PyProof.Rows.rangeSize_nat a b, if_pos (by decide), Int.sub_self, Int.add_zero, fits_long (Nat.lt_trans h1 (by decide)), k2, fits_long (a := 1) (by decide), fits_long (a := ((b - a).toNat : Int)) (sub_small h1 h2), Bool.or_true]
  rfl
theorem Itr.range (ok : Ok g C n) {a b : Int} (h1 : a.natAbs < 2 ^ 20) (h2 : b.natAbs < 2 ^ 20) : Itr g C (.f (.rng a b)) (rangeL a b) (PrR a b) where
  mono f := id
  start := by
    intro σ Y Z W h tk r v hv Q E k
    obtain ⟨mF, kd, Cs, r⟩ := r
    cases hv with | f hv => cases hv with | rng hz =>
    refine wpAny_pyIter_range (s := g.mk' h tk) (r.mem_z hz) (range_small h1 h2) (k _ _ _ (push_new h) (push_keeps h _) (Heap.get?_push_size h rfl) ?_)
    unfold PrR
    rw [PyProof.Rows.rangeSize_nat]
    simp
  self := by
    rintro h tk it o i Z ho rfl Q E k
    exact wpAny_pyIter_rangeiter (s := g.mk' h tk) ho k
  item := by
    rintro i y hy h tk it o Z hz ho rfl Q E k
    obtain ⟨rfl, hi⟩ := rangeL_get hy
    refine wpAny_pyNext_range_item (s := g.mk' h tk) ho (by omega) fun h' hit hs => ?_
    rw [show a + (i : Int) + 1 = a + ((i + 1 : Nat) : Int) from by omega, show ((b - a).toNat : Int) - (i : Int) - 1 = ((b - a).toNat : Int) - ((i + 1 : Nat) : Int) from by omega] at hit
    exact k _ _ h' _ .int rfl hs hit
  done := by
    rintro i hy h tk it o Z hz ho rfl Q E k
    have := rangeL_none hy
    exact wpAny_pyNext_range_end (s := g.mk' h tk) ok.hh ho (by omega) fun h' hs => k h' tk hs
  own := by
    rintro h tk it o i Z elts kk pos T ho rfl Q E k
    unfold letOwnedTupleGo
    refine wpAny_bind (wpAny_load (s := g.mk' h tk) ho ?_)
    show wpAny _ _ (if (["enumerate", "zip", "dict_itemiterator", "dict_reverseitemiterator", "odict_iterator", "itertools.zip_longest", "itertools.pairwise"].contains "range_iterator" && _) = true then _ else _) _ _ _
    rw [if_neg (by simp)]
    exact wpAny_pure k
end


noncomputable abbrev RU : Fz → List Addr → Unit → Unit → Prop := fun _ _ _ _ => True

/-- the turns of a for loop -/
noncomputable def ForQ (g : Gl) (C : Cx) (target : Expr) (body : List Stmt) (Qn : St → Prop) (Q : AF → St → Prop) : List FV → St → Prop
  | [], σ => Qn σ
  | x :: xs, σ => AWh g C XC.no RU [.f x] (val1 (assign target C.env)) (fun _ σ₁ => AX g C XC.no (execs body C.env) (fun f σ₂ => match f with
      | .next => ForQ g C target body Qn Q xs σ₂
      | .cont => ForQ g C target body Qn Q xs σ₂
      | .brk => Q .next σ₂
      | .ret v => Q (.ret v) σ₂) σ₁) σ

/-- cells seen from a comprehension; those it does not read are dark -/
noncomputable def capt (cl : List (Str × Addr)) : List Slot → List Slot
  | [] => []
  | .l _ :: r => capt cl r
  | .c x a :: r => (match cl.lookup x with | some _ => .c x a | none => .d x a) :: capt cl r
  | .d x a :: r => .d x a :: capt cl r
noncomputable def cellVals : List Slot → List (Option AV) → List (Option AV)
  | [], _ => []
  | .l _ :: r, _ :: us => cellVals r us
  | .c _ _ :: r, u :: us => u :: cellVals r us
  | .d _ _ :: r, u :: us => u :: cellVals r us
  | _, _ => []
noncomputable def captOk (env : Env) (cl : List (Str × Addr)) (x : Str) : List Slot → Prop
  | [] => True
  | .l _ :: r => captOk env cl x r
  | .c y a :: r => x ≠ y ∧ ((cl.lookup y).isSome = true → env.kindOf y = some .cell ∧ cl.lookup y = some a) ∧ captOk env cl x r
  | .d y _ :: r => x ≠ y ∧ captOk env cl x r
theorem co_nil {env : Env} {cl : List (Str × Addr)} {x : Str} : captOk env cl x [] := trivial
theorem co_l {env : Env} {cl : List (Str × Addr)} {x y : Str} {r : List Slot} (h : captOk env cl x r) : captOk env cl x (.l y :: r) := h
theorem co_d {env : Env} {cl : List (Str × Addr)} {x y : Str} {a : Addr} {r : List Slot} (h1 : x ≠ y) (h : captOk env cl x r) : captOk env cl x (.d y a :: r) := ⟨h1, h⟩
theorem co_c {env : Env} {cl : List (Str × Addr)} {x y : Str} {a : Addr} {r : List Slot} (h1 : x ≠ y) (h2 : env.kindOf y = some .cell) (h3 : cl.lookup y = some a) (h : captOk env cl x r) : captOk env cl x (.c y a :: r) := ⟨h1, fun _ => ⟨h2, h3⟩, h⟩
theorem co_n {env : Env} {cl : List (Str × Addr)} {x y : Str} {a : Addr} {r : List Slot} (h1 : x ≠ y) (h3 : cl.lookup y = none) (h : captOk env cl x r) : captOk env cl x (.c y a :: r) := ⟨h1, fun e => (nomatch (h3 ▸ e : (none : Option Addr).isSome = true)), h⟩

/-- the turns of a comprehension -/
noncomputable def CompQ (g : Gl) (C : Cx) (elt : Expr) (ifs : List Expr) (cv : List (Option AV)) (Qend : List AV → List HO → Prop) : List FV → List AV → List HO → Prop
  | [], acc, H => Qend acc H
  | x :: xs, acc, H => match ifs with
    | [] => AW g C XC.no (eval elt C.env) (fun y σ' => σ'.loc = some (.f x) :: cv ∧ CompQ g C elt ifs cv Qend xs (acc ++ [y]) σ'.heap) ⟨H, some (.f x) :: cv⟩
    | c :: _ => AWb g C XC.no (isTrue c C.env (eval c C.env)) (fun b σ₁ => σ₁.loc = some (.f x) :: cv ∧
        (b = true → AW g C XC.no (eval elt C.env) (fun y σ' => σ'.loc = some (.f x) :: cv ∧ CompQ g C elt ifs cv Qend xs (acc ++ [y]) σ'.heap) ⟨σ₁.heap, some (.f x) :: cv⟩) ∧
        (b = false → CompQ g C elt ifs cv Qend xs acc σ₁.heap)) ⟨H, some (.f x) :: cv⟩

section
variable {g : Gl} {C : Cx} {X : XC} {σ : St} {n : Nat} {Y : Led} {Z : Fz} {W : List Ent} {h h' : Heap} {mF : Str → Option Value} {kd Cs : Led} {a : Addr} {o o' : Obj}

theorem own_go {x : AV} {xs : List FV} {Pr : Fz → Nat → Addr → Obj → Prop} (I : Itr g C x xs Pr) {target : Expr} (ht : (∃ elts k pos, target = .Tuple elts k pos) ∨ ∀ it v, letOwnedTupleGo target it v = pure ())
    {h : Heap} {tk : Nat} {it : Addr} {o : Obj} {i : Nat} {Z : Fz} {v : Value} (ho : h.get? it = some o) (hp : Pr Z i it o) {Q : Unit → Shared → Prop} {E : Value → Shared → Prop} (k : Q () (g.mk' h tk)) :
    wpAny (model g.prog g.w) C.A (letOwnedTupleGo target (.ref it) v) Q E (g.mk' h tk) := by
  rcases ht with ⟨elts, kk, pos, rfl⟩ | ht
  · cases v with
    | ref T => exact I.own h tk it o i Z elts kk pos T ho hp Q E k
    | _ => exact wpAny_pure k
  · exact wpAny_of_eq (ht _ _) k

theorem AX.no {t : Sem Flow} {Q : AF → St → Prop} (h : AX g C XC.no t Q σ) : AX g C X t Q σ := fun Y Z W hh tk r Qc Ec q e => h Y Z W hh tk r Qc Ec q fun _ _ z => z.elim

theorem drop_cons {α : Type} {xs : List α} {i : Nat} {y : α} (h : xs[i]? = some y) : xs.drop i = y :: xs.drop (i + 1) := by
  obtain ⟨hl, e⟩ := List.getElem?_eq_some_iff.mp h
  rw [← e, ← List.drop_eq_getElem_cons hl]

inductive ForI (g : Gl) (C : Cx) (target : Expr) (body : List Stmt) (Qn : St → Prop) (Q : AF → St → Prop) (xs : List FV) (Pr : Fz → Nat → Addr → Obj → Prop) (it : Addr) (Y : Led) (Z : Fz) (W : List Ent) (n : Nat) (s : Shared) : Prop
  | mk (i : Nat) (Z' : Fz) (W' : List Ent) (h' : Heap) (tk' : Nat) (o' : Obj) (σ' : St) (hn : n = (xs.drop i).length) (hs : s = g.mk' h' tk') (hF : ForQ g C target body Qn Q (xs.drop i) σ') (hr : Rel g C ((it, o') :: Y) Z' W' σ' h') (hp : Pr Z' i it o') (hf : FLe Z Z') (hc : PC C (adr W) (adr W'))
theorem X_for {target iter : Expr} {body orelse : List Stmt} {pos : Pos} {Q : AF → St → Prop} (ht : (∃ elts k pos, target = .Tuple elts k pos) ∨ ∀ it v, letOwnedTupleGo target it v = pure ())
    (h : AW g C X (eval iter C.env) (fun x σ₁ => ∃ xs Pr, Itr g C x xs Pr ∧ ForQ g C target body (AX g C XC.no (execs orelse C.env) Q) Q xs σ₁) σ)
    (hs : ∀ x, foldedSetIterable iter C.env x = pure x := by intro _; rfl) : AX g C X (exec (.For target iter body orelse pos) C.env) Q σ := by
  intro Y Z W hh tk r Qc Ec q e
  refine wpAny_For (h Y Z W hh tk r _ Ec (fun x σ₁ v₁ Z₁ W₁ h₁ t₁ p₁ r₁ f₁ w₁ x₁ => ?_) e) hs
  obtain ⟨xs, Pr, I, hQ⟩ := p₁
  refine I.start σ₁ Y Z₁ W₁ h₁ t₁ r₁ v₁ x₁ _ _ fun it o h₂ hn hk ho hp => ?_
  have r₂ : Rel g C ((it, o) :: Y) Z₁ W₁ σ₁ h₂ := by obtain ⟨mF, kd, Cs, r₁⟩ := r₁; exact ⟨mF, kd, Cs, r₁.newY hk hn ho⟩
  refine codeAny_forLoop_any (ForI g C target body (AX g C XC.no (execs orelse C.env) Q) Q xs Pr it Y Z W)
    ?_ _ ⟨0, Z₁, W₁, h₂, t₁, o, σ₁, rfl, rfl, hQ, r₂, hp, f₁, w₁.pc⟩
  rintro n s ⟨i, Z', W', h', tk', o', σ', rfl, rfl, hF, r', hp', f', c'⟩
  have hz : ∀ q ∈ Z'.z, h'.get? q.1 = some q.2 := by obtain ⟨_, _, _, r'⟩ := r'; exact fun q hq => r'.mem_z hq
  have ho' : h'.get? it = some o' := by obtain ⟨_, _, _, r'⟩ := r'; exact r'.headY.1
  cases hy : xs[i]? with
  | none =>
    refine I.done i hy h' tk' it o' Z' hz ho' hp' _ _ fun h'' tk'' hs' => ?_
    dsimp only
    rw [List.drop_eq_nil_of_le (List.getElem?_eq_none_iff.mp hy)] at hF
    have r'' : Rel g C Y Z' W' σ' h'' := by obtain ⟨mF, kd, Cs, r'⟩ := r'; exact ⟨mF, kd, Cs, r'.extY hs'⟩
    exact hF Y Z' W' h'' tk'' r'' _ _ (fun b σ₂ v Z₂ W₂ h₂ t₂ hq r₂ f₂ c₂ x₂ => q b σ₂ v Z₂ W₂ h₂ t₂ hq r₂ (f'.trans f₂) (c'.trans c₂) x₂) fun _ _ z => z.elim
  | some y =>
    rw [drop_cons hy] at hF
    refine I.item i y hy h' tk' it o' Z' hz ho' hp' _ _ fun v o'' h'' tk'' hv hp'' hs' ho'' => ?_
    dsimp only
    have r'' : Rel g C ((it, o'') :: Y) Z' W' σ' h'' := by obtain ⟨mF, kd, Cs, r'⟩ := r'; exact ⟨mF, kd, Cs, r'.turnY hs' ho''⟩
    refine own_go I ht ho'' hp'' ?_
    refine hF ((it, o'') :: Y) Z' W' h'' tk'' r'' [v] (.cons (.f hv) .nil) _ _ (fun _ σ₂ _ Z₂ W₂ h₂ t₂ hb r₂ f₂ w₂ _ => ?_) fun _ _ z => z.elim
    refine hb ((it, o'') :: Y) Z₂ W₂ h₂ t₂ r₂ _ _ (fun b σ₃ u Z₃ W₃ h₃ t₃ hq r₃ f₃ c₃ x₃ => ?_) fun _ _ z => z.elim
    have more : ForQ g C target body (AX g C XC.no (execs orelse C.env) Q) Q (xs.drop (i + 1)) σ₃ → ∃ m, m < (xs.drop i).length ∧ ForI g C target body (AX g C XC.no (execs orelse C.env) Q) Q xs Pr it Y Z W m (g.mk' h₃ t₃) := fun hF' =>
      ⟨(xs.drop (i + 1)).length, by rw [drop_cons hy, List.length_cons]; exact Nat.lt_succ_self _, i + 1, Z₃, W₃, h₃, t₃, o'', σ₃, rfl, rfl, hF', r₃, I.mono (f₂.trans f₃) hp'', (f'.trans f₂).trans f₃, (c'.trans w₂.pc).trans c₃⟩
    have out : Rel g C Y Z₃ W₃ σ₃ h₃ := by obtain ⟨mF, kd, Cs, r₃⟩ := r₃; exact ⟨mF, kd, Cs, r₃.dropY⟩
    cases x₃ with
    | next => exact more hq
    | cont => exact more hq
    | brk => exact q .next σ₃ .next Z₃ W₃ h₃ t₃ hq out ((f'.trans f₂).trans f₃) ((c'.trans w₂.pc).trans c₃) .next
    | ret hv => exact q _ σ₃ _ Z₃ W₃ h₃ t₃ hq out ((f'.trans f₂).trans f₃) ((c'.trans w₂.pc).trans c₃) (.ret hv)

theorem AS_name (ok : Ok g C n) {x : Str} {pos : Pos} {v : AV} {Q : St → Prop} (h : Bind C σ x v Q) : AWh g C X RU [v] (val1 (assign (.Name x pos) C.env)) (fun _ => Q) σ := by
  intro Y Z W hh tk r vs hv Qc Ec q e
  obtain ⟨u, rfl, h1⟩ := vrs1 hv
  obtain ⟨loc', st, hq⟩ := h
  exact wpAny_assign_Name (store_name ok r st h1 fun h' tk' r' => q () _ () Z W h' tk' hq r' (FLe.refl Z) (PLe.refl _) trivial)

theorem capt_s (cl : List (Str × Addr)) (x : Str) (a : Addr) : ∀ s, s = (match cl.lookup x with | some _ => Slot.c x a | none => .d x a) → s = .c x a ∨ s = .d x a := by
  rintro _ rfl
  split
  · exact .inl rfl
  · exact .inr rfl
theorem SR.mk {φ : List Addr} {m : Str → Option Value} {s : Slot} {x : Str} {a : Addr} {o : Obj} {ov : Option Value} {u : Option AV} {ss : List Slot} {us : List (Option AV)} {Cs : Led} (hs : s = .c x a ∨ s = .d x a) (hd : o.data = .cell ov) (ho : OV g Z φ u ov) (r : SR g Z φ m ss us Cs) :
    SR g Z φ m (s :: ss) (u :: us) ((a, o) :: Cs) := by
  rcases hs with rfl | rfl
  · exact .c hd ho r
  · exact .d hd ho r
theorem SR.cd {φ : List Addr} {m : Str → Option Value} {s : Slot} {x : Str} {a : Addr} {u : Option AV} {ss : List Slot} {us : List (Option AV)} {Cs : Led} (hs : s = .c x a ∨ s = .d x a) (r : SR g Z φ m (s :: ss) (u :: us) Cs) :
    ∃ o ov Cs', o.data = .cell ov ∧ OV g Z φ u ov ∧ Cs = (a, o) :: Cs' ∧ SR g Z φ m ss us Cs' := by
  rcases hs with rfl | rfl
  · cases r with | c hd ho r => exact ⟨_, _, _, hd, ho, rfl, r⟩
  · cases r with | d hd ho r => exact ⟨_, _, _, hd, ho, rfl, r⟩
/-- cells alone -/
theorem SR.cells {φ : List Addr} {m m' : Str → Option Value} (cl : List (Str × Addr)) {ss : List Slot} {us : List (Option AV)} {Cs : Led} (h : SR g Z φ m ss us Cs) : SR g Z φ m' (capt cl ss) (cellVals ss us) Cs := by
  induction h with
  | nil => exact .nil
  | l _ _ ih => exact ih
  | c hd ho _ ih => exact .mk (capt_s cl _ _ _ rfl) hd ho ih
  | d hd ho _ ih => exact .d hd ho ih
theorem SR.join {Z' : Fz} {φ φ' : List Addr} {m m' : Str → Option Value} (cl : List (Str × Addr)) (f : FLe Z Z') (p : PLe φ φ') {ss : List Slot} {us : List (Option AV)} {Cs Cs' : Led} (h : SR g Z φ m ss us Cs) (r' : SR g Z' φ' m' (capt cl ss) (cellVals ss us) Cs') : SR g Z' φ' m ss us Cs' := by
  induction h generalizing Cs' with
  | nil =>
    change SR g Z' φ' m' [] [] Cs' at r'
    cases r'; exact .nil
  | l ho _ ih => exact .l (ho.mono f fun _ _ e => p.get e) (ih r')
  | c _ _ _ ih =>
    obtain ⟨_, _, _, hd, ho, rfl, r⟩ := SR.cd (capt_s cl _ _ _ rfl) r'
    exact .c hd ho (ih r)
  | d _ _ _ ih =>
    obtain ⟨_, _, _, hd, ho, rfl, r⟩ := SR.cd (.inr rfl) r'
    exact .d hd ho (ih r)
theorem capt_c' {env : Env} {cl : List (Str × Addr)} {x : Str} {ss : List Slot} (h : captOk env cl x ss) : (∀ s ∈ capt cl ss, x ≠ s.nm ∧ (∀ y, s ≠ .l y) ∧ ∀ y a, s = .c y a → env.kindOf y = some .cell ∧ cl.lookup y = some a) ∧ ((capt cl ss).map (·.nm)).Sublist (ss.map (·.nm)) := by
  induction ss with
  | nil => exact ⟨fun _ h => (nomatch h), .slnil⟩
  | cons s ss ih =>
    cases s with
    | l y => exact ⟨(ih h).1, .cons _ (ih h).2⟩
    | c y a =>
      obtain ⟨k1, k2, k3⟩ := h
      unfold capt
      cases q : cl.lookup y with
      | some b =>
        rw [q] at k2
        exact ⟨List.forall_mem_cons.mpr ⟨⟨k1, fun _ h => (nomatch h), fun _ _ e => by cases e; exact ⟨(k2 rfl).1, q ▸ (k2 rfl).2⟩⟩, (ih k3).1⟩, .cons₂ _ (ih k3).2⟩
      | none => exact ⟨List.forall_mem_cons.mpr ⟨⟨k1, fun _ h => (nomatch h), fun _ _ h => (nomatch h)⟩, (ih k3).1⟩, .cons₂ _ (ih k3).2⟩
    | d y a => exact ⟨List.forall_mem_cons.mpr ⟨⟨h.1, fun _ h => (nomatch h), fun _ _ h => (nomatch h)⟩, (ih h.2).1⟩, .cons₂ _ (ih h.2).2⟩
theorem capt_c {env : Env} {cl : List (Str × Addr)} {x : Str} {ss : List Slot} (h : captOk env cl x ss) : (∀ y a, .c y a ∈ capt cl ss → env.kindOf y = some .cell ∧ cl.lookup y = some a) ∧ (∀ y, .l y ∉ capt cl ss) ∧ (∀ s ∈ capt cl ss, x ≠ s.nm) ∧ ((capt cl ss).map (·.nm)).Sublist (ss.map (·.nm)) :=
  let ⟨k, s⟩ := capt_c' h
  ⟨fun y a m => (k _ m).2.2 y a rfl, fun y m => (k _ m).2.1 y rfl, fun s m => (k s m).1, s⟩
end


noncomputable abbrev compCx (C : Cx) (scope : Scope) (cl : List (Str × Addr)) (Lc : Addr) (m₀ : Str → Option Value) (x : Str) : Cx :=
  { C with env := compEnvC scope cl Lc C.env, mode := .cp Lc m₀, slots := .l x :: capt cl C.slots }

section
variable {g : Gl} {C : Cx} {X : XC} {σ : St} {n : Nat} {Y : Led} {Z : Fz} {W : List Ent} {h h' : Heap} {mF : Str → Option Value} {kd Cs : Led} {a : Addr} {o o' : Obj}
  {scope : Scope} {cl : List (Str × Addr)} {x : Str}

theorem comp_ok (ok : Ok g C n) (hkind : scope.kind = .function) (hx : scope.names.lookup x = some .local) (hcap : captOk (compEnvC scope cl 0 C.env) cl x C.slots) (Lc : Addr) (m₀ : Str → Option Value) : Ok g (compCx C scope cl Lc m₀ x) n := by
  obtain ⟨c1, c2, c3, c4⟩ := capt_c hcap
  refine { B := ok.B, X := ok.X, T := ok.T, fr := ok.fr, fL := ok.fL, fk := ok.fk, hh := ok.hh, ek := ?_, eg := ok.eg, eb := ok.eb, el := rfl, ef := ok.ef, kl := ?_, kc := ?_, nd := ?_, rd := ok.rd, ru := ok.ru }
  · exact hkind
  · intro y hy
    rcases List.mem_cons.mp hy with e | hy
    · cases e; exact lookup_relabel_local hx
    · exact absurd hy (c2 y)
  · intro y b hy
    rcases List.mem_cons.mp hy with e | hy
    · cases e
    · exact c1 y b hy
  · show (x :: (capt cl C.slots).map (·.nm)).Nodup
    refine List.nodup_cons.mpr ⟨fun hm => ?_, ok.nd.sublist c4⟩
    obtain ⟨s, hs, e⟩ := List.mem_map.mp hm
    exact c3 s hs e.symm

/-- into the comprehension's frame, and back -/
theorem RelM.enter (hfn : C.mode = .fn) {Lc : Addr} {oc : Obj} {m : Str → Option Value} (r : RelM g C ((Lc, oc) :: Y) Z W σ h mF kd Cs) (hn : NsO oc m) : RelM g (compCx C scope cl Lc mF x) Y Z W ⟨σ.heap, none :: cellVals C.slots σ.loc⟩ h mF [(Lc, oc)] Cs := by
  have lo := r.lo
  unfold Loc at lo
  rw [hfn] at lo
  dsimp only at lo
  obtain ⟨rfl, lo⟩ := lo
  have pm : (ledger [] Cs ((Lc, oc) :: Y) Z W).Perm (ledger [(Lc, oc)] Cs Y Z W) := ledger_y (Lc, oc)
  exact ⟨r.fr, newsPerm r.nw pm.symm, (pm.map _).nodup_iff.mp r.nd, ⟨rfl, oc, m, rfl, hn, .l trivial (lo.cells cl)⟩, r.or⟩
theorem RelM.leave (hfn : C.mode = .fn) {Lc : Addr} {m₀ : Str → Option Value} {u : Option AV} {loc : List (Option AV)} {Z₀ : Fz} {φ₀ : List Addr} {Cs₀ : Led} {H : List HO} (sr : SR g Z₀ φ₀ m₀ C.slots loc Cs₀) (f : FLe Z₀ Z) (p : PLe φ₀ (adr W))
    (r : RelM g (compCx C scope cl Lc m₀ x) Y Z W ⟨H, u :: cellVals C.slots loc⟩ h mF kd Cs) : ∃ oc m, NsO oc m ∧ RelM g C ((Lc, oc) :: Y) Z W ⟨H, loc⟩ h m₀ [] Cs := by
  have lo := r.lo
  obtain ⟨rfl, oc, m, rfl, hn, lo⟩ := lo
  have pm : (ledger [] Cs ((Lc, oc) :: Y) Z W).Perm (ledger [(Lc, oc)] Cs Y Z W) := ledger_y (Lc, oc)
  refine ⟨oc, m, hn, ⟨r.fr, newsPerm r.nw pm, (pm.map _).nodup_iff.mpr r.nd, ?_, r.or⟩⟩
  unfold Loc
  rw [hfn]
  cases lo with
  | l _ lo => exact ⟨rfl, sr.join cl f p lo⟩

theorem appendY {A : Around} {D : Addr} {vs : List Value} {m tk : Nat} {v : Value} {Q : Value → Shared → Prop} {E : Value → Shared → Prop} (r : RelM g C ((D, listOf vs.toArray m) :: Y) Z W σ h mF kd Cs) (hz : vs.length ≤ 2 ^ 20)
    (k : ∀ h', RelM g C ((D, listOf (vs ++ [v]).toArray (m + 1)) :: Y) Z W σ h' mF kd Cs → Q .none (g.mk' h' tk)) : wpAny (model g.prog g.w) A (call (.builtin "list.append") [.ref D, v]) Q E (g.mk' h tk) := by
  have e1 : ∀ o, ledger kd Cs ((D, o) :: Y) Z W = (kd ++ Cs) ++ (D, o) :: (Y ++ (Z.z ++ (Z.d ++ led W))) := fun o => by unfold ledger; simp
  have nd := r.nd
  have nw := r.nw
  rw [e1] at nd nw
  have sp := nodup_split nd
  refine append_K (s := g.mk' h tk) r.fr nw (Upd.mk' (o' := listOf (vs.toArray.push v) (m + 1)) sp.2.1 sp.1) (fun h' F N => k h' ?_) (by rw [List.size_toArray, sizeLine_eq]; omega)
  rw [show (vs ++ [v]).toArray = vs.toArray.push v from by simp]
  exact ⟨F, by rw [e1]; exact N, by rw [e1]; exact sp.2.2 _, r.lo, r.or⟩

inductive CompI (g : Gl) (Cc : Cx) (elt : Expr) (ifs : List Expr) (cv : List (Option AV)) (Qend : List AV → List HO → Prop) (xs : List FV) (Pr : Fz → Nat → Addr → Obj → Prop) (it D : Addr) (Y : Led) (Z : Fz) (W : List Ent) (n : Nat) (s : Shared) : Prop
  | mk (i : Nat) (acc : List AV) (H : List HO) (Z' : Fz) (W' : List Ent) (h' : Heap) (tk' : Nat) (o' lo : Obj) (vs : List Value) (u : Option AV) (hn : n = (xs.drop i).length) (hs : s = g.mk' h' tk') (hC : CompQ g Cc elt ifs cv Qend (xs.drop i) acc H)
    (hr : Rel g Cc ((D, lo) :: (it, o') :: Y) Z' W' ⟨H, u :: cv⟩ h') (hp : Pr Z' i it o') (hl : LO lo vs) (hv : VRs g.prog g.w Z' (adr W') acc vs) (ha : acc.length ≤ i) (hi : i ≤ xs.length) (hf : FLe Z Z') (hw : PLe (adr W) (adr W'))

theorem comp_core (ok : Ok g C n) (hfn : C.mode = .fn) {elt iter : Expr} {px : Pos} {ifs : List Expr} {pos : Pos} (hifs : ifs.length ≤ 1) (hcell : ∀ y ∈ scope.names, y.2 ≠ .cell) (hkind : scope.kind = .function) (hx : scope.names.lookup x = some .local) (hcap : captOk (compEnvC scope cl 0 C.env) cl x C.slots)
    {xv : AV} {xs : List FV} {Pr : Fz → Nat → Addr → Obj → Prop} (I : Itr g C xv xs Pr) (hz : xs.length ≤ 2 ^ 20) {it : Addr} {tk : Nat} (r : Rel g C ((it, o) :: Y) Z W σ h) (hp : Pr Z 0 it o) {Qend : List AV → List HO → Prop}
    (hq : ∀ C', Ok g C' n → (∃ Lc, C'.env = compEnvC scope cl Lc C.env) → C'.slots = .l x :: capt cl C.slots → C'.pl = C.pl → CompQ g C' elt ifs (cellVals C.slots σ.loc) Qend xs [] σ.heap)
    {RR : Value → Addr → Result → Shared → Prop} {E : Value → Shared → Prop}
    (hRR : ∀ D lo vs acc H Lc oc mc Z' W' h' tk', Qend acc H → acc.length ≤ xs.length → Rel g C ((D, lo) :: (Lc, oc) :: Y) Z' W' ⟨H, σ.loc⟩ h' → LO lo vs → VRs g.prog g.w Z' (adr W') acc vs → NsO oc mc → FLe Z Z' → PLe (adr W) (adr W') → RR (.ref D) Lc (.ok .next) (g.mk' h' tk')) :
    wpAny (model g.prog g.w) C.A (newList []) (fun acc s₃ => wpAny (model g.prog g.w) C.A (newFunctionEnv scope C.env.globals cl [] C.env.qual none .none (some C.env)) (fun cenv s₄ =>
      codeAny (model g.prog g.w) C.A (.compStart (.ListComp elt [⟨.Name x px, iter, ifs, 0⟩] scope pos) 0 (.ref it) acc { cenv with scope := relabel scope C.env }) (RR acc cenv.locals) s₄) E s₃) E (g.mk' h tk) := by
  obtain ⟨mF, kd, Cs, r⟩ := r
  refine wpAny_newObj_type (wpAny_newFunctionEnv hcell (by intro y hy; simp at hy) (fun h₁ hns₁ hsb₁ => ?_) hkind)
  dsimp only at hns₁ hsb₁ ⊢
  have r₁ := r.newY (push_keeps h (listOf ([] : List Value).toArray 0)) (push_new h) (Heap.get?_push_size h rfl)
  generalize hH2 : (g.mk' h tk).heap.push { cls := .type "list", dict := none, data := .seq ([] : List Value).toArray } = H2 at hns₁ hsb₁ ⊢
  replace r₁ : RelM g C ((h.objs.size, listOf ([] : List Value).toArray 0) :: (it, o) :: Y) Z W σ H2 mF kd Cs := by rw [← hH2]; exact r₁
  obtain ⟨oc, hoc, hno⟩ := NsO.of hns₁
  have r₂ := r₁.newY (h' := h₁) (a := H2.objs.size) (o := oc) (fun b o e => hsb₁.extBut b o (fun q => Nat.lt_irrefl _ (q ▸ Heap.lt_size e)) (Heap.get?_push_of_some _ e)) (push_new H2) hoc
  have lo₀ := r₂.lo
  unfold Loc at lo₀
  rw [hfn] at lo₀
  have r₃ := r₂.enter (scope := scope) (cl := cl) (x := x) hfn hno
  have ok' : Ok g (compCx C scope cl H2.objs.size mF x) n := comp_ok ok hkind hx hcap _ _
  have hq' := hq _ ok' ⟨_, rfl⟩ rfl rfl
  have ht₁ : (g.mk' h tk).toks = tk := rfl
  have hp₃ : Pr Z 0 it o := hp
  generalize htk : ({ g.mk' h tk with heap := h₁, toks := (g.mk' h tk).toks + ([] : List (Str × Value)).length } : Shared) = sM
  have hsM : sM = g.mk' h₁ tk := by rw [← htk]; rfl
  have key : ∀ s₃ : Shared, s₃ = g.mk' h₁ tk → codeAny (model g.prog g.w) C.A (.compLoop (.ListComp elt [⟨.Name x px, iter, ifs, 0⟩] scope pos) 0 (.ref it) (.ref h.objs.size) (compEnvC scope cl H2.objs.size C.env)) (RR (.ref h.objs.size) H2.objs.size) s₃ := by
    rintro s₃ rfl
    refine codeAny_compLoop_tests (CompI g (compCx C scope cl H2.objs.size mF x) elt ifs (cellVals C.slots σ.loc) Qend xs Pr it h.objs.size Y Z W)
      ?_ _ ⟨0, [], σ.heap, Z, W, h₁, tk, o, _, [], none, rfl, rfl, hq', ⟨_, _, _, r₃⟩, hp₃, ⟨0, rfl⟩, .nil, Nat.le_refl _, Nat.zero_le _, FLe.refl Z, PLe.refl _⟩
    rintro n s ⟨i, acc, H, Z', W', h', tk', o', lo, vs, u, rfl, rfl, hC, r', hp', hlo, hvs, hai, hix, f', p'⟩
    obtain ⟨m1, k1, c1, r'⟩ := r'
    have hz' : ∀ q ∈ Z'.z, h'.get? q.1 = some q.2 := fun q hq => r'.mem_z hq
    have ho' : h'.get? it = some o' := r'.swapY.headY.1
    cases hy : xs[i]? with
    | none =>
      refine I.done i hy h' tk' it o' Z' hz' ho' hp' _ _ fun h'' tk'' hs' => ?_
      dsimp only
      rw [List.drop_eq_nil_of_le (List.getElem?_eq_none_iff.mp hy)] at hC
      have r'' := r'.swapY.extY hs'
      obtain ⟨oc', m', hn', r₄⟩ := r''.leave hfn lo₀.2 f' p'
      exact hRR _ lo vs acc H _ oc' m' Z' W' h'' tk'' hC (Nat.le_trans hai hix) ⟨_, _, _, r₄.swapY⟩ hlo hvs hn' f' p'
    | some y =>
      have hil : i < xs.length := (List.getElem?_eq_some_iff.mp hy).1
      rw [drop_cons hy] at hC
      refine I.item i y hy h' tk' it o' Z' hz' ho' hp' _ _ fun v o'' h'' tk'' hv hp'' hs' ho'' => ?_
      dsimp only
      have r'' := (r'.swapY.turnY hs' ho'').swapY
      have hbind : AWh g (compCx C scope cl H2.objs.size mF x) XC.no RU [.f y] (val1 (assign (.Name x px) (compEnvC scope cl H2.objs.size C.env))) (fun _ σ' => σ' = ⟨H, some (.f y) :: cellVals C.slots σ.loc⟩) ⟨H, u :: cellVals C.slots σ.loc⟩ :=
        AS_name ok' ⟨_, .l, rfl⟩
      refine hbind _ Z' W' h'' tk'' ⟨_, _, _, r''⟩ [v] (.cons (.f hv) .nil) _ _ (fun _ σ₂ _ Z₂ W₂ h₂ t₂ hb r₂ f₂ w₂ _ => ?_) fun _ _ z => z.elim
      subst hb
      have elts : ∀ (H₃ : List HO) Z₃ W₃ h₃ t₃, AW g (compCx C scope cl H2.objs.size mF x) XC.no (eval elt (compEnvC scope cl H2.objs.size C.env)) (fun yv σ' => σ'.loc = some (.f y) :: cellVals C.slots σ.loc ∧ CompQ g (compCx C scope cl H2.objs.size mF x) elt ifs (cellVals C.slots σ.loc) Qend (xs.drop (i + 1)) (acc ++ [yv]) σ'.heap) ⟨H₃, some (.f y) :: cellVals C.slots σ.loc⟩ →
          Rel g (compCx C scope cl H2.objs.size mF x) ((h.objs.size, lo) :: (it, o'') :: Y) Z₃ W₃ ⟨H₃, some (.f y) :: cellVals C.slots σ.loc⟩ h₃ → FLe Z' Z₃ → PLe (adr W') (adr W₃) → ∀ E',
          wpAny (model g.prog g.w) C.A (eval elt (compEnvC scope cl H2.objs.size C.env)) (fun x₅ s₄ => wpAny (model g.prog g.w) C.A (call (.builtin "list.append") [.ref h.objs.size, x₅])
            (fun _ s₅ => ∃ m, m < (xs.drop i).length ∧ CompI g (compCx C scope cl H2.objs.size mF x) elt ifs (cellVals C.slots σ.loc) Qend xs Pr it h.objs.size Y Z W m s₅) E' s₄) E' (g.mk' h₃ t₃) := by
        intro H₃ Z₃ W₃ h₃ t₃ hE r₃ f₃ p₃ E'
        refine hE _ Z₃ W₃ h₃ t₃ r₃ _ _ (fun yv σ₄ yu Z₄ W₄ h₄ t₄ hq₄ r₄ f₄ w₄ x₄ => ?_) fun _ _ z => z.elim
        obtain ⟨hloc, hC₄⟩ := hq₄
        obtain ⟨H₄, loc₄⟩ := σ₄
        dsimp only at hloc hC₄
        subst hloc
        obtain ⟨m4, k4, c4, r₄⟩ := r₄
        have hl := hvs.len
        obtain ⟨m₅, rfl⟩ := hlo
        refine appendY r₄ (by omega) fun h₅ r₅ => ?_
        refine ⟨(xs.drop (i + 1)).length, by rw [drop_cons hy, List.length_cons]; exact Nat.lt_succ_self _, i + 1, acc ++ [yv], H₄, Z₄, W₄, h₅, t₄, o'', _, vs ++ [yu], some (.f y), rfl, rfl, hC₄, ⟨_, _, _, r₅⟩, I.mono (f₃.trans f₄) hp'', ⟨m₅ + 1, rfl⟩, ?_, by rw [List.length_append]; exact Nat.add_le_add_right hai 1, hil, (f'.trans f₃).trans f₄, (p'.trans p₃).trans w₄⟩
        exact VRs.append (hvs.mono (f₃.trans f₄) fun _ _ e => (p₃.trans w₄).get e) (.cons x₄ .nil)
      match ifs, hifs, hC with
      | [], _, hC =>
        refine wpAny_tests_nil ?_
        rw [if_pos rfl]
        exact elts H Z₂ W₂ h₂ t₂ hC r₂ f₂ w₂ _
      | [c], _, hC =>
        refine wpAny_tests_one (hC _ Z₂ W₂ h₂ t₂ r₂ _ _ (fun b σ₃ bv Z₃ W₃ h₃ t₃ hq₃ r₃ f₃ w₃ x₃ => ?_) fun _ _ z => z.elim)
        subst x₃
        obtain ⟨hloc, k1, k2⟩ := hq₃
        obtain ⟨H₃, loc₃⟩ := σ₃
        dsimp only at hloc k1 k2
        subst hloc
        cases bv with
        | true =>
          rw [if_pos rfl]
          exact elts H₃ Z₃ W₃ h₃ t₃ (k1 rfl) r₃ (f₂.trans f₃) (w₂.trans w₃) _
        | false =>
          rw [if_neg (by decide)]
          exact ⟨(xs.drop (i + 1)).length, by rw [drop_cons hy, List.length_cons]; exact Nat.lt_succ_self _, i + 1, acc, H₃, Z₃, W₃, h₃, t₃, o'', lo, vs, _, rfl, rfl, k2 rfl, r₃, I.mono (f₂.trans f₃) hp'', hlo, hvs.mono (f₂.trans f₃) fun _ _ e => (w₂.trans w₃).get e, Nat.le_succ_of_le hai, hil, (f'.trans f₂).trans f₃, (p'.trans w₂).trans w₃⟩
  have hself := I.self h₁ tk it o 0 Z r₃.swapY.headY.1 hp₃ (fun it' s' => codeAny (model g.prog g.w) C.A (.compLoop (.ListComp elt [⟨.Name x px, iter, ifs, 0⟩] scope pos) 0 it' (.ref h.objs.size) (compEnvC scope cl H2.objs.size C.env)) (RR (.ref h.objs.size) H2.objs.size) s')
  subst hsM
  exact codeAny_compStart_list (key _ rfl) (hself _ (key _ rfl))
end


/-- the end of a comprehension: its list frozen, or not -/
noncomputable def CE (Q : AV → St → Prop) (loc : List (Option AV)) (acc : List AV) (H : List HO) : Prop :=
  (∃ ys : List FV, acc = ys.map .f ∧ Q (.f (.lst ys)) ⟨H, loc⟩) ∨ Q (.ref H.length) ⟨H ++ [.lst acc], loc⟩

section
variable {g : Gl} {C : Cx} {X : XC} {σ : St} {n : Nat} {Y : Led} {Z : Fz} {W : List Ent} {h h' : Heap} {mF : Str → Option Value} {kd Cs : Led} {a : Addr} {o o' : Obj}
  {scope : Scope} {cl : List (Str × Addr)} {x : Str}

theorem ce_end {Q : AV → St → Prop} {loc : List (Option AV)} {acc : List AV} {H : List HO} {D : Addr} {lo : Obj} {vs : List Value} (he : CE Q loc acc H) (r : Rel g C ((D, lo) :: Y) Z W ⟨H, loc⟩ h) (hlo : LO lo vs) (hv : VRs g.prog g.w Z (adr W) acc vs) :
    ∃ b σ' Z' W', Q b σ' ∧ Rel g C Y Z' W' σ' h ∧ FLe Z Z' ∧ PLe (adr W) (adr W') ∧ VR g.prog g.w Z' (adr W') b (.ref D) := by
  obtain ⟨mF, kd, Cs, r⟩ := r
  rcases he with ⟨ys, rfl, hq⟩ | hq
  · obtain ⟨r', f⟩ := r.moveZ
    exact ⟨_, _, _, W, hq, ⟨_, _, _, r'⟩, f, PLe.refl _, .f (.lst (.head _) hlo (hv.vfs.mono f))⟩
  · have hW : H.length = W.length := r.or.len
    have p : PLe (adr W) (adr (W ++ [⟨D, [(D, lo)]⟩])) := by rw [adr_append]; exact ⟨_, rfl⟩
    have r' := r.moveW (x := .lst acc) (.lst hlo (hv.mono (FLe.refl Z) fun i b q => PLe.get ⟨_, rfl⟩ q))
    refine ⟨_, _, Z, _, hq, ⟨_, _, _, r'⟩, FLe.refl Z, p, .ref ?_⟩
    rw [adr_append, hW]
    unfold adr
    rw [List.getElem?_append_right (by rw [List.length_map]; exact Nat.le_refl _), List.length_map, Nat.sub_self]
    rfl

theorem R_comp (ok : Ok g C n) (hfn : C.mode = .fn) {elt iter : Expr} {px pos : Pos} {ifs : List Expr} {Q : AV → St → Prop} (hclos : closureFor scope C.env = pure cl)
    (h : AW g C X (eval iter C.env) (fun xv σ₁ => ∃ xs Pr, Itr g C xv xs Pr ∧ xs.length ≤ 2 ^ 20 ∧ ∀ C', Ok g C' n → (∃ Lc, C'.env = compEnvC scope cl Lc C.env) → C'.slots = .l x :: capt cl C.slots → C'.pl = C.pl → CompQ g C' elt ifs (cellVals C.slots σ₁.loc) (CE Q σ₁.loc) xs [] σ₁.heap) σ)
    (hcap : captOk (compEnvC scope cl 0 C.env) cl x C.slots)
    (hcell : ∀ y ∈ scope.names, y.2 ≠ .cell) (hkind : scope.kind = .function) (hnames : ∀ y ∈ scope.names, y.2 = .local → scope.names.lookup y.1 = some .local) (hx : scope.names.lookup x = some .local) (hifs : ifs.length ≤ 1)
    (hs : ∀ x, foldedSetIterable iter C.env x = pure x := by intro _; rfl) : AW g C X (eval (.ListComp elt [⟨.Name x px, iter, ifs, 0⟩] scope pos) C.env) Q σ := by
  intro Y Z W hh tk r Qc Ec q e
  rw [eval_ListComp]
  refine wpAny_comprehension_free (use := none) rfl hs hclos hkind hnames (h Y Z W hh tk r _ Ec (fun xv σ₁ v₁ Z₁ W₁ h₁ t₁ p₁ r₁ f₁ w₁ x₁ => ?_) e)
  obtain ⟨xs, Pr, I, hz, hq⟩ := p₁
  refine I.start σ₁ Y Z₁ W₁ h₁ t₁ r₁ v₁ x₁ _ _ fun it o h₂ hn hk ho hp => ?_
  have r₂ : Rel g C ((it, o) :: Y) Z₁ W₁ σ₁ h₂ := by obtain ⟨mF, kd, Cs, r₁⟩ := r₁; exact ⟨mF, kd, Cs, r₁.newY hk hn ho⟩
  refine comp_core (Qend := CE Q σ₁.loc) (RR := fun acc Lc => compPost (model g.prog g.w) C.A Ec none Qc acc Lc) ok hfn hifs hcell hkind hx hcap I hz r₂ hp hq fun D lo vs acc H Lc oc mc Z' W' h' tk' hE hle r' hlo hv hno f' p' => ?_
  obtain ⟨mF, kd, Cs, r'⟩ := r'
  have rs := r'.swapY
  refine ⟨mc, hno.ns rs.headY.1, fun h'' hsb => ?_⟩
  obtain ⟨b, σ', Z₃, W₃, hQ, r₃, f₃, p₃, x₃⟩ := ce_end hE ⟨mF, kd, Cs, rs.extY hsb.extBut⟩ hlo hv
  exact q b σ' _ Z₃ W₃ h'' tk' hQ r₃ ((f₁.trans f').trans f₃) ((w₁.trans p').trans p₃) x₃

theorem X_assignC (ok : Ok g C n) (hfn : C.mode = .fn) {elt iter : Expr} {y : Str} {px py pos spos : Pos} {ifs : List Expr} {Q : AF → St → Prop} (hclos : closureFor scope C.env = pure cl)
    (h : AW g C X (eval iter C.env) (fun xv σ₁ => ∃ xs Pr, Itr g C xv xs Pr ∧ xs.length ≤ 2 ^ 20 ∧ ∀ C', Ok g C' n → (∃ Lc, C'.env = compEnvC scope cl Lc C.env) → C'.slots = .l x :: capt cl C.slots → C'.pl = C.pl → CompQ g C' elt ifs (cellVals C.slots σ₁.loc) (CE (fun v σ' => Bind C σ' y v (Q .next)) σ₁.loc) xs [] σ₁.heap) σ)
    (hcap : captOk (compEnvC scope cl 0 C.env) cl x C.slots)
    (hsw : swapsWith (.ListComp elt [⟨.Name x px, iter, ifs, 0⟩] scope pos) (some (.Name y py)) spos.line C.env = pure true)
    (hcell : ∀ y ∈ scope.names, y.2 ≠ .cell) (hkind : scope.kind = .function) (hnames : ∀ y ∈ scope.names, y.2 = .local → scope.names.lookup y.1 = some .local) (hx : scope.names.lookup x = some .local) (hifs : ifs.length ≤ 1)
    (hs : ∀ x, foldedSetIterable iter C.env x = pure x := by intro _; rfl) : AX g C X (exec (.Assign [.Name y py] (.ListComp elt [⟨.Name x px, iter, ifs, 0⟩] scope pos) spos) C.env) Q σ := by
  intro Y Z W hh tk r Qc Ec q e
  rw [exec_Assign_Name_used _ _ _ _ hsw]
  refine wpAny_bind (wpAny_standAt (wpAny_bind ?_))
  show wpAny _ _ (do let _ ← comprehension (.ListComp elt [⟨.Name x px, iter, ifs, 0⟩] scope pos) scope C.env _ (newList []) false (eval iter C.env) (some (assign (.Name y py) C.env))) _ _ _
  refine wpAny_bind (wpAny_mono (wpAny_comprehension_free (use := some (assign (.Name y py) C.env)) (Q := fun _ s' => Qc .next s') rfl hs hclos hkind hnames
    (h Y Z W hh tk r _ Ec (fun xv σ₁ v₁ Z₁ W₁ h₁ t₁ p₁ r₁ f₁ w₁ x₁ => ?_) e)) (fun _ s' hq => wpAny_pure (wpAny_pure hq)) fun _ _ e => e)
  obtain ⟨xs, Pr, I, hz, hq⟩ := p₁
  refine I.start σ₁ Y Z₁ W₁ h₁ t₁ r₁ v₁ x₁ _ _ fun it o h₂ hn hk ho hp => ?_
  have r₂ : Rel g C ((it, o) :: Y) Z₁ W₁ σ₁ h₂ := by obtain ⟨mF, kd, Cs, r₁⟩ := r₁; exact ⟨mF, kd, Cs, r₁.newY hk hn ho⟩
  refine comp_core (Qend := CE (fun v σ' => Bind C σ' y v (Q .next)) σ₁.loc) (RR := fun acc Lc => compPost (model g.prog g.w) C.A Ec (some (assign (.Name y py) C.env)) (fun _ s' => Qc .next s') acc Lc) ok hfn hifs hcell hkind hx hcap I hz r₂ hp hq fun D lo vs acc H Lc oc mc Z' W' h' tk' hE hle r' hlo hv hno f' p' => ?_
  obtain ⟨b, σ', Z₃, W₃, hB, r₃, f₃, p₃, x₃⟩ := ce_end hE r' hlo hv
  obtain ⟨loc', st, hQ⟩ := hB
  show wpAny _ _ (assign (.Name y py) C.env (.ref D)) _ _ _
  refine wpAny_assign_Name (store_name ok r₃ st x₃ fun h₄ t₄ r₄ => ?_)
  obtain ⟨mF, kd, Cs, r₄⟩ := r₄
  refine ⟨mc, hno.ns r₄.headY.1, fun h₅ hsb => ?_⟩
  exact q .next _ .next Z₃ W₃ h₅ t₄ hQ ⟨mF, kd, Cs, r₄.extY hsb.extBut⟩ ((f₁.trans f').trans f₃) ((w₁.trans p').trans p₃).pc .next

/-- a display of a dict with str keys -/
inductive PRs (g : Gl) (Z : Fz) (φ : List Addr) : List (Str × AV) → List (Value × Value) → Prop
  | nil : PRs g Z φ [] []
  | cons {k : Str} {t : Tok} {x : AV} {v : Value} {ps : List (Str × AV)} {vs : List (Value × Value)} : VR g.prog g.w Z φ x v → PRs g Z φ ps vs → PRs g Z φ ((k, x) :: ps) ((.str k t, v) :: vs)
theorem P_nil {pos : Pos} {Q : List (Str × AV) → St → Prop} (h : Q [] σ) : AWg g C X (PRs g) (evalPairs (pairTrees [] [] C.env pos)) Q σ :=
  AWg.here h fun Y Z W hh tk r Qc Ec q => pairTrees_nil_walk (q [] hh tk (fun _ _ e => e) .nil)
theorem P_cons {k v : Expr} {ks : List (Option Expr)} {vs : List Expr} {pos : Pos} {Q : List (Str × AV) → St → Prop}
    (h : AW g C X (eval k C.env) (fun kx σ₁ => ∃ kk, kx = .str kk ∧ AW g C X (eval v C.env) (fun x σ₂ => AWg g C X (PRs g) (evalPairs (pairTrees ks vs C.env pos)) (fun ps => Q ((kk, x) :: ps)) σ₂) σ₁) σ) :
    AWg g C X (PRs g) (evalPairs (pairTrees (some k :: ks) (v :: vs) C.env pos)) Q σ := by
  intro Y Z W hh tk r Qc Ec q e
  refine pairTrees_cons_walk (h Y Z W hh tk r _ Ec (fun a σ₁ v₁ Z₁ W₁ h₁ t₁ p₁ r₁ f₁ w₁ x₁ => ?_) e)
  obtain ⟨kk, rfl, p₁⟩ := p₁
  obtain ⟨t, rfl⟩ := vr_str x₁
  refine p₁ Y Z₁ W₁ h₁ t₁ r₁ _ Ec (fun b σ₂ v₂ Z₂ W₂ h₂ t₂ p₂ r₂ f₂ w₂ x₂ => ?_) fun e' s' z => e e' s' (X.mono f₁ z)
  exact p₂ Y Z₂ W₂ h₂ t₂ r₂ _ Ec (fun c σ₃ v₃ Z₃ W₃ h₃ t₃ p₃ r₃ f₃ w₃ x₃ => q _ σ₃ _ Z₃ W₃ h₃ t₃ p₃ r₃ ((f₁.trans f₂).trans f₃) ((w₁.trans w₂).trans w₃) (.cons (x₂.up f₃ w₃) x₃)) fun e' s' z => e e' s' (X.mono (f₁.trans f₂) z)
theorem PRs.split {φ : List Addr} : ∀ {ps : List (Str × AV)} {vs : List (Value × Value)}, PRs g Z φ ps vs → allStrKeys vs = true ∧ ∃ us, strPairs vs = (ps.map (·.1)).zip us ∧ ps.length = us.length ∧ VRs g.prog g.w Z φ (ps.map (·.2)) us
  | _, _, .nil => ⟨rfl, [], rfl, rfl, .nil⟩
  | _, _, .cons h r => by
    obtain ⟨h1, us, h2, h3, h4⟩ := PRs.split r
    refine ⟨h1, _ :: us, ?_, ?_, .cons h h4⟩
    · unfold strPairs; rw [h2]; rfl
    · rw [List.length_cons, List.length_cons, h3]
theorem R_dict {keys : List (Option Expr)} {values : List Expr} {pos : Pos} {Q : AV → St → Prop} (hb : sysModules < C.h₀.objs.size)
    (h : AWg g C XC.no (PRs g) (evalPairs (pairTrees keys values C.env pos)) (fun ps σ₁ => (ps.map (·.1)).Nodup ∧ Q (.ref σ₁.heap.length) ⟨σ₁.heap ++ [.dct (ps.map (·.1)) (ps.map (·.2))], σ₁.loc⟩) σ)
    (hall : keys.all (·.isSome) = true := by rfl) (hl : keys.length = values.length := by rfl) (h0 : keys ≠ [] := by simp) (hlen : keys.length ≤ 15 := by decide) : AW g C X (eval (.Dict keys values pos) C.env) Q σ := by
  intro Y Z W hh tk r Qc Ec q e
  obtain ⟨mF, kd, Cs, r⟩ := r
  have hsy : (hh.objs.size == sysModules) = false := r.fr.notModules hb
  refine wpAny_Dict_walk (knd := strKind g.prog g.w) hall hl h0 hlen ?_
  have r₀ := r.newY (push_keeps hh { cls := .type "dict", data := .dict #[] }) (push_new hh) (Heap.get?_push_size hh rfl)
  refine h _ Z W _ tk ⟨_, _, _, r₀⟩ _ _ (fun ps σ₁ vs Z₁ W₁ h₁ t₁ p₁ r₁ f₁ w₁ x₁ => ?_) fun _ _ z => z.elim
  obtain ⟨mF₁, kd₁, Cs₁, r₁⟩ := r₁
  obtain ⟨k1, us, k2, k3, k4⟩ := x₁.split
  obtain ⟨pn, hQ⟩ := p₁
  have e0 : (strPairs vs).map (·.1) = ps.map (·.1) := by rw [k2, List.map_fst_zip (by rw [List.length_map]; omega)]
  have hd0 : Obj.IsDictOf (strKind g.prog g.w) { cls := .type "dict", data := .dict #[] } [] := by
    obtain ⟨o₂, ho, hd⟩ := Heap.dictOf_iff.mp (Heap.DictOf.new (knd := strKind g.prog g.w) hh)
    rw [Heap.get?_push_size _ rfl] at ho
    rw [← Option.some.inj ho] at hd
    exact hd
  refine display_done_str k1 (by rw [e0]; exact pn) (Heap.dictOf_iff.mpr ⟨_, r₁.headY.1, hd0⟩) fun h' hd' hsb => ?_
  obtain ⟨o', ho', i'⟩ := Heap.dictOf_iff.mp hd'
  rw [k2] at i'
  have r₂ := r₁.turnY hsb ho'
  have hW : σ₁.heap.length = W₁.length := r₂.or.len
  have p : PLe (adr W₁) (adr (W₁ ++ [⟨hh.objs.size, [(hh.objs.size, o')]⟩])) := by rw [adr_append]; exact ⟨_, rfl⟩
  have r₃ := r₂.moveW (x := .dct (ps.map (·.1)) (ps.map (·.2))) (.dct hsy i' (by rw [List.length_map]; exact k3) (k4.mono (FLe.refl _) fun i b q => PLe.get ⟨_, rfl⟩ q))
  refine q _ _ _ Z₁ _ h' _ hQ ⟨_, _, _, r₃⟩ f₁ (w₁.trans p) (.ref ?_)
  rw [adr_append, hW]
  unfold adr
  rw [List.getElem?_append_right (by rw [List.length_map]; exact Nat.le_refl _), List.length_map, Nat.sub_self]
  rfl
end


noncomputable def isN : AV → Bool
  | .f .none => true
  | .f (.cst v) => v == .none
  | _ => false
theorem isN_vr {prog : Program} {w : World} {Z : Fz} {φ : List Addr} {x : AV} {v : Value} (h : VR prog w Z φ x v) : (v == .none) = isN x := by
  cases h with
  | ref _ => rfl
  | f h => cases h <;> rfl

section
variable {g : Gl} {C : Cx} {X : XC} {σ : St} {n : Nat}

theorem T_bool {e : Expr} {whole : Sem Value} {Q : Bool → St → Prop} (h : AW g C X whole (fun v σ₁ => ∃ b, v = .bool b ∧ Q b σ₁) σ) (he : isTrue e C.env whole = (do let v ← whole; standAt e.pos; holding [v] (truthy v)) := by rfl) : AWb g C X (isTrue e C.env whole) Q σ := by
  intro Y Z W hh tk rr Qc Ec q e
  refine isTrue_plain (h Y Z W hh tk rr _ Ec (fun a σ₁ v₁ Z₁ W₁ h₁ t₁ p₁ r₁ f₁ w₁ x₁ => ?_) e) he
  obtain ⟨b, rfl, hq⟩ := p₁
  cases vr_bool x₁
  exact wpAny_truthy_bool (q b σ₁ _ Z₁ W₁ h₁ t₁ hq r₁ f₁ w₁ rfl)
theorem T_not {x : Expr} {pos : Pos} {whole : Sem Value} {Q : Bool → St → Prop} (h : AWb g C X (isTrue x C.env (eval x C.env)) (fun b => Q (!b)) σ) : AWb g C X (isTrue (.UnaryOp .Not x pos) C.env whole) Q σ := by
  intro Y Z W hh tk rr Qc Ec q e
  exact isTrue_not (h Y Z W hh tk rr _ Ec (fun a σ₁ v₁ Z₁ W₁ h₁ t₁ p₁ r₁ f₁ w₁ x₁ => q (!a) σ₁ _ Z₁ W₁ h₁ t₁ p₁ r₁ f₁ w₁ (by rw [x₁])) e)
theorem T_and0 {pos : Pos} {whole : Sem Value} {Q : Bool → St → Prop} (h : Q true σ) : AWb g C X (isTrue (.BoolOp .And [] pos) C.env whole) Q σ :=
  AWg.here h fun Y Z W hh tk r Qc Ec q => isTrue_and_nil (q true hh tk (fun _ _ e => e) rfl)
theorem T_or0 {pos : Pos} {whole : Sem Value} {Q : Bool → St → Prop} (h : Q false σ) : AWb g C X (isTrue (.BoolOp .Or [] pos) C.env whole) Q σ :=
  AWg.here h fun Y Z W hh tk r Qc Ec q => isTrue_or_nil (q false hh tk (fun _ _ e => e) rfl)
theorem T_and {x : Expr} {rest : List Expr} {pos : Pos} {whole : Sem Value} {Q : Bool → St → Prop}
    (h : AWb g C X (isTrue x C.env (eval x C.env)) (fun b σ₁ => (b = true → AWb g C X (isTrue (.BoolOp .And rest pos) C.env whole) Q σ₁) ∧ (b = false → Q false σ₁)) σ) : AWb g C X (isTrue (.BoolOp .And (x :: rest) pos) C.env whole) Q σ := by
  intro Y Z W hh tk rr Qc Ec q e
  refine isTrue_and (h Y Z W hh tk rr _ Ec (fun a σ₁ v₁ Z₁ W₁ h₁ t₁ p₁ r₁ f₁ w₁ x₁ => ?_) e)
  subst x₁
  cases v₁ with
  | true => exact p₁.1 rfl Y Z₁ W₁ h₁ t₁ r₁ Qc Ec (fun b σ' v Z' W' h' tk' hq r' f' w' x' => q b σ' v Z' W' h' tk' hq r' (f₁.trans f') (w₁.trans w') x') fun e' s' z => e e' s' (X.mono f₁ z)
  | false => exact q false σ₁ _ Z₁ W₁ h₁ t₁ (p₁.2 rfl) r₁ f₁ w₁ rfl
theorem T_or {x : Expr} {rest : List Expr} {pos : Pos} {whole : Sem Value} {Q : Bool → St → Prop}
    (h : AWb g C X (isTrue x C.env (eval x C.env)) (fun b σ₁ => (b = true → Q true σ₁) ∧ (b = false → AWb g C X (isTrue (.BoolOp .Or rest pos) C.env whole) Q σ₁)) σ) : AWb g C X (isTrue (.BoolOp .Or (x :: rest) pos) C.env whole) Q σ := by
  intro Y Z W hh tk rr Qc Ec q e
  refine isTrue_or (h Y Z W hh tk rr _ Ec (fun a σ₁ v₁ Z₁ W₁ h₁ t₁ p₁ r₁ f₁ w₁ x₁ => ?_) e)
  subst x₁
  cases v₁ with
  | true => exact q true σ₁ _ Z₁ W₁ h₁ t₁ (p₁.1 rfl) r₁ f₁ w₁ rfl
  | false => exact p₁.2 rfl Y Z₁ W₁ h₁ t₁ r₁ Qc Ec (fun b σ' v Z' W' h' tk' hq r' f' w' x' => q b σ' v Z' W' h' tk' hq r' (f₁.trans f') (w₁.trans w') x') fun e' s' z => e e' s' (X.mono f₁ z)
theorem T_ifexp {t b o : Expr} {pos : Pos} {whole : Sem Value} {Q : Bool → St → Prop}
    (h : AWb g C X (isTrue t C.env (eval t C.env)) (fun c σ₁ => (c = true → AWb g C X (isTrue b C.env (eval b C.env)) Q σ₁) ∧ (c = false → AWb g C X (isTrue o C.env (eval o C.env)) Q σ₁)) σ) : AWb g C X (isTrue (.IfExp t b o pos) C.env whole) Q σ := by
  intro Y Z W hh tk rr Qc Ec q e
  refine isTrue_IfExp (h Y Z W hh tk rr _ Ec (fun a σ₁ v₁ Z₁ W₁ h₁ t₁ p₁ r₁ f₁ w₁ x₁ => ?_) e)
  subst x₁
  cases v₁ with
  | true => exact p₁.1 rfl Y Z₁ W₁ h₁ t₁ r₁ Qc Ec (fun b σ' v Z' W' h' tk' hq r' f' w' x' => q b σ' v Z' W' h' tk' hq r' (f₁.trans f') (w₁.trans w') x') fun e' s' z => e e' s' (X.mono f₁ z)
  | false => exact p₁.2 rfl Y Z₁ W₁ h₁ t₁ r₁ Qc Ec (fun b σ' v Z' W' h' tk' hq r' f' w' x' => q b σ' v Z' W' h' tk' hq r' (f₁.trans f') (w₁.trans w') x') fun e' s' z => e e' s' (X.mono f₁ z)
theorem R_ifexp {t b o : Expr} {pos : Pos} {Q : AV → St → Prop}
    (h : AWb g C X (isTrue t C.env (eval t C.env)) (fun c σ₁ => (c = true → AW g C X (eval b C.env) Q σ₁) ∧ (c = false → AW g C X (eval o C.env) Q σ₁)) σ) : AW g C X (eval (.IfExp t b o pos) C.env) Q σ := by
  intro Y Z W hh tk rr Qc Ec q e
  refine IfExp_ (h Y Z W hh tk rr _ Ec (fun a σ₁ v₁ Z₁ W₁ h₁ t₁ p₁ r₁ f₁ w₁ x₁ => ?_) e)
  subst x₁
  cases v₁ with
  | true => exact p₁.1 rfl Y Z₁ W₁ h₁ t₁ r₁ Qc Ec (fun b σ' v Z' W' h' tk' hq r' f' w' x' => q b σ' v Z' W' h' tk' hq r' (f₁.trans f') (w₁.trans w') x') fun e' s' z => e e' s' (X.mono f₁ z)
  | false => exact p₁.2 rfl Y Z₁ W₁ h₁ t₁ r₁ Qc Ec (fun b σ' v Z' W' h' tk' hq r' f' w' x' => q b σ' v Z' W' h' tk' hq r' (f₁.trans f') (w₁.trans w') x') fun e' s' z => e e' s' (X.mono f₁ z)
/-- and, or as values, of bools -/
theorem R_bop1 {op : BoolOp} {x : Expr} {pos : Pos} {Q : AV → St → Prop} (h : AW g C X (eval x C.env) Q σ) : AW g C X (eval (.BoolOp op [x] pos) C.env) Q σ :=
  fun Y Z W hh tk rr Qc Ec q e => BoolOp_one (h Y Z W hh tk rr Qc Ec q e)
theorem R_and {x y : Expr} {rest : List Expr} {pos : Pos} {Q : AV → St → Prop}
    (h : AW g C X (eval x C.env) (fun v σ₁ => ∃ b, v = .bool b ∧ (b = true → AW g C X (eval (.BoolOp .And (y :: rest) pos) C.env) Q σ₁) ∧ (b = false → Q (.bool false) σ₁)) σ) : AW g C X (eval (.BoolOp .And (x :: y :: rest) pos) C.env) Q σ := by
  intro Y Z W hh tk rr Qc Ec q e
  refine BoolOp_and (h Y Z W hh tk rr _ Ec (fun a σ₁ v₁ Z₁ W₁ h₁ t₁ p₁ r₁ f₁ w₁ x₁ => ?_) e)
  obtain ⟨b, rfl, p1, p2⟩ := p₁
  cases vr_bool x₁
  refine wpAny_truthy_bool ?_
  cases b with
  | true => exact p1 rfl Y Z₁ W₁ h₁ t₁ r₁ Qc Ec (fun b σ' v Z' W' h' tk' hq r' f' w' x' => q b σ' v Z' W' h' tk' hq r' (f₁.trans f') (w₁.trans w') x') fun e' s' z => e e' s' (X.mono f₁ z)
  | false => exact q _ σ₁ _ Z₁ W₁ h₁ t₁ (p2 rfl) r₁ f₁ w₁ (.f .bool)
theorem R_or {x y : Expr} {rest : List Expr} {pos : Pos} {Q : AV → St → Prop}
    (h : AW g C X (eval x C.env) (fun v σ₁ => ∃ b, v = .bool b ∧ (b = true → Q (.bool true) σ₁) ∧ (b = false → AW g C X (eval (.BoolOp .Or (y :: rest) pos) C.env) Q σ₁)) σ) : AW g C X (eval (.BoolOp .Or (x :: y :: rest) pos) C.env) Q σ := by
  intro Y Z W hh tk rr Qc Ec q e
  refine BoolOp_or (h Y Z W hh tk rr _ Ec (fun a σ₁ v₁ Z₁ W₁ h₁ t₁ p₁ r₁ f₁ w₁ x₁ => ?_) e)
  obtain ⟨b, rfl, p1, p2⟩ := p₁
  cases vr_bool x₁
  refine wpAny_truthy_bool ?_
  cases b with
  | true => exact q _ σ₁ _ Z₁ W₁ h₁ t₁ (p1 rfl) r₁ f₁ w₁ (.f .bool)
  | false => exact p2 rfl Y Z₁ W₁ h₁ t₁ r₁ Qc Ec (fun b σ' v Z' W' h' tk' hq r' f' w' x' => q b σ' v Z' W' h' tk' hq r' (f₁.trans f') (w₁.trans w') x') fun e' s' z => e e' s' (X.mono f₁ z)
theorem R_not {x : Expr} {pos : Pos} {Q : AV → St → Prop} (h : AW g C X (eval x C.env) (fun v σ₁ => ∃ b, v = .bool b ∧ Q (.bool (!b)) σ₁) σ) : AW g C X (eval (.UnaryOp .Not x pos) C.env) Q σ := by
  intro Y Z W hh tk rr Qc Ec q e
  refine UnaryOp_ (h Y Z W hh tk rr _ Ec (fun a σ₁ v₁ Z₁ W₁ h₁ t₁ p₁ r₁ f₁ w₁ x₁ => ?_) e)
  obtain ⟨b, rfl, hq⟩ := p₁
  cases vr_bool x₁
  exact not_of (wpAny_truthy_bool (q _ σ₁ _ Z₁ W₁ h₁ t₁ hq r₁ f₁ w₁ (.f .bool)))
/-- a < b < c as a test -/
theorem T_chain {l r₁ r₂ : Expr} {op₁ op₂ : CmpOp} {pos : Pos} {whole : Sem Value} {Q : Bool → St → Prop}
    (h : AW g C X (eval l C.env) (fun a σ₁ => AW g C X (eval r₁ C.env) (fun b σ₂ => AWh g C X (VR g.prog g.w) [a, b] (val2 (compareOp op₁)) (fun v σ₃ => ∃ t, v = .bool t ∧ (t = false → Q false σ₃) ∧
      (t = true → AW g C X (eval r₂ C.env) (fun c σ₄ => AWh g C X (VR g.prog g.w) [b, c] (val2 (compareOp op₂)) (fun v σ₅ => ∃ t, v = .bool t ∧ Q t σ₅) σ₄) σ₃)) σ₂) σ₁) σ)
    (hm : lastMarks [op₁, op₂] [r₁, r₂] = false := by with_unfolding_all rfl) : AWb g C X (isTrue (.Compare l [op₁, op₂] [r₁, r₂] pos) C.env whole) Q σ := by
  intro Y Z W hh tk rr Qc Ec q e
  refine isTrue_chain (h Y Z W hh tk rr _ Ec (fun a σ₁ v₁ Z₁ W₁ h₁ t₁ p₁ r₁ f₁ w₁ x₁ => ?_) e) hm
  refine test_link (p₁ Y Z₁ W₁ h₁ t₁ r₁ _ Ec (fun b σ₂ v₂ Z₂ W₂ h₂ t₂ p₂ r₂ f₂ w₂ x₂ => ?_) fun e' s' z => e e' s' (X.mono f₁ z))
  refine p₂ Y Z₂ W₂ h₂ t₂ r₂ [v₁, v₂] (.cons (x₁.up f₂ w₂) (.cons x₂ .nil)) _ Ec (fun c σ₃ v₃ Z₃ W₃ h₃ t₃ p₃ r₃ f₃ w₃ x₃ => ?_) fun e' s' z => e e' s' (X.mono (f₁.trans f₂) z)
  obtain ⟨t, rfl, p3, p4⟩ := p₃
  cases vr_bool x₃
  refine wpAny_truthy_bool ?_
  cases t with
  | false => exact q false σ₃ _ Z₃ W₃ h₃ t₃ (p3 rfl) r₃ ((f₁.trans f₂).trans f₃) ((w₁.trans w₂).trans w₃) rfl
  | true =>
    refine test_last (p4 rfl Y Z₃ W₃ h₃ t₃ r₃ _ Ec (fun d σ₄ v₄ Z₄ W₄ h₄ t₄ p₄ r₄ f₄ w₄ x₄ => ?_) fun e' s' z => e e' s' (X.mono ((f₁.trans f₂).trans f₃) z))
    refine p₄ Y Z₄ W₄ h₄ t₄ r₄ [v₂, v₄] (.cons ((x₂.up f₃ w₃).up f₄ w₄) (.cons x₄ .nil)) _ Ec (fun c σ₅ v₅ Z₅ W₅ h₅ t₅ p₅ r₅ f₅ w₅ x₅ => ?_) fun e' s' z => e e' s' (X.mono (((f₁.trans f₂).trans f₃).trans f₄) z)
    obtain ⟨t, rfl, hq⟩ := p₅
    cases vr_bool x₅
    exact wpAny_truthy_bool (q t σ₅ _ Z₅ W₅ h₅ t₅ hq r₅ ((((f₁.trans f₂).trans f₃).trans f₄).trans f₅) ((((w₁.trans w₂).trans w₃).trans w₄).trans w₅) rfl)

theorem C_is {x : AV} {Q : AV → St → Prop} (h : Q (.bool (isN x)) σ) : AWh g C X (VR g.prog g.w) [x, .none] (val2 (compareOp .Is)) Q σ :=
  AWh.here h fun Y Z W hh tk r vs hv Qc Ec q => by
    obtain ⟨v, u, rfl, h1, h2⟩ := vrs2 hv
    cases vr_none h2
    refine is_none_gen ?_
    rw [isN_vr h1]
    exact q (.bool _) hh tk (fun _ _ e => e) (.f .bool)
theorem C_isnot {x : AV} {Q : AV → St → Prop} (h : Q (.bool (!isN x)) σ) : AWh g C X (VR g.prog g.w) [x, .none] (val2 (compareOp .IsNot)) Q σ :=
  AWh.here h fun Y Z W hh tk r vs hv Qc Ec q => by
    obtain ⟨v, u, rfl, h1, h2⟩ := vrs2 hv
    cases vr_none h2
    refine isnot_none_gen ?_
    rw [isN_vr h1]
    exact q (.bool _) hh tk (fun _ _ e => e) (.f .bool)
theorem H_ss {α β : Type} {R : Fz → List Addr → β → α → Prop} {f : Value → Value → Sem α} {i j : Str} {Q : β → St → Prop} {b : β} (hq : Q b σ)
    (h : ∀ t u s (Qc : α → Shared → Prop) (Ec : Value → Shared → Prop), (∀ v tk, (∀ Z φ, R Z φ b v) → Qc v { s with toks := tk }) → wpAny (model g.prog g.w) C.A (f (.str i t) (.str j u)) Qc Ec s) : AWh g C X R [.str i, .str j] (val2 f) Q σ :=
  AWh.here hq fun Y Z W hh tk r vs hv Qc Ec q => by
    obtain ⟨v, u, rfl, h1, h2⟩ := vrs2 hv
    obtain ⟨t, rfl⟩ := vr_str h1
    obtain ⟨t', rfl⟩ := vr_str h2
    exact h t t' _ Qc Ec fun v tk' hr => q v hh tk' (fun _ _ e => e) (hr _ _)
theorem C_eqs {i j : Str} {Q : AV → St → Prop} (h : Q (.bool (i == j)) σ) : AWh g C X (VR g.prog g.w) [.str i, .str j] (val2 (compareOp .Eq)) Q σ :=
  H_ss h fun t u s Qc Ec q => PyProof.Rows.eq_str (q _ s.toks fun _ _ => .f .bool)
theorem C_nes {i j : Str} {Q : AV → St → Prop} (h : Q (.bool (i != j)) σ) : AWh g C X (VR g.prog g.w) [.str i, .str j] (val2 (compareOp .NotEq)) Q σ :=
  H_ss h fun t u s Qc Ec q => PyProof.Rows.ne_str (q _ s.toks fun _ _ => .f .bool)
theorem B_adds {i j : Str} {Q : AV → St → Prop} (hz : i.length + j.length ≤ 2 ^ 20) (h : Q (.str (i ++ j)) σ) : AWh g C X (VR g.prog g.w) [.str i, .str j] (val2 (binaryOp .Add)) Q σ :=
  H_ss h fun t u s Qc Ec q => PyProof.Rows.add_str (fun t' tk => q _ tk fun _ _ => .f .str) (by rw [sizeLine_eq]; omega)
theorem C_nesn {i : Str} {Q : AV → St → Prop} (h : Q (.bool true) σ) : AWh g C X (VR g.prog g.w) [.str i, .none] (val2 (compareOp .NotEq)) Q σ :=
  AWh.here h fun Y Z W hh tk r vs hv Qc Ec q => by
    obtain ⟨v, u, rfl, h1, h2⟩ := vrs2 hv
    obtain ⟨t, rfl⟩ := vr_str h1
    cases vr_none h2
    exact EqNone.ne_str_none (q (.bool _) hh tk (fun _ _ e => e) (.f .bool))
theorem C_nens {i : Str} {Q : AV → St → Prop} (h : Q (.bool true) σ) : AWh g C X (VR g.prog g.w) [.none, .str i] (val2 (compareOp .NotEq)) Q σ :=
  AWh.here h fun Y Z W hh tk r vs hv Qc Ec q => by
    obtain ⟨v, u, rfl, h1, h2⟩ := vrs2 hv
    obtain ⟨t, rfl⟩ := vr_str h2
    cases vr_none h1
    exact EqNone.ne_none_str (q (.bool _) hh tk (fun _ _ e => e) (.f .bool))
theorem C_nenn {Q : AV → St → Prop} (h : Q (.bool false) σ) : AWh g C X (VR g.prog g.w) [.none, .none] (val2 (compareOp .NotEq)) Q σ :=
  AWh.here h fun Y Z W hh tk r vs hv Qc Ec q => by
    obtain ⟨v, u, rfl, h1, h2⟩ := vrs2 hv
    cases vr_none h1
    cases vr_none h2
    exact EqNone.ne_none_none (q (.bool _) hh tk (fun _ _ e => e) (.f .bool))
theorem C_lei {i j : Int} {Q : AV → St → Prop} (h : Q (.bool (decide (i ≤ j))) σ) : AWh g C X (VR g.prog g.w) [.int i, .int j] (val2 (compareOp .LtE)) Q σ :=
  H_ii h fun t u s Qc Ec q => le_int (q _ s.toks fun _ _ => .f .bool)
theorem C_gei {i j : Int} {Q : AV → St → Prop} (h : Q (.bool (decide (j ≤ i))) σ) : AWh g C X (VR g.prog g.w) [.int i, .int j] (val2 (compareOp .GtE)) Q σ :=
  H_ii h fun t u s Qc Ec q => ge_int (q _ s.toks fun _ _ => .f .bool)

theorem vrs_ints {Z : Fz} {φ : List Addr} : ∀ {ns : List Int} {vs : List Value}, VRs g.prog g.w Z φ (ns.map .int) vs → PyProof.Rows.IntsAre vs ns
  | [], _, .nil => .nil
  | i :: ns, _, .cons h r => by obtain ⟨t, rfl⟩ := vr_int h; exact .cons i t (vrs_ints r)
theorem vrs_strs {Z : Fz} {φ : List Addr} : ∀ {ns : List Str} {vs : List Value}, VRs g.prog g.w Z φ (ns.map .str) vs → PyProof.Rows.StrsAre vs ns
  | [], _, .nil => .nil
  | i :: ns, _, .cons h r => by obtain ⟨t, rfl⟩ := vr_str h; exact .cons i t (vrs_strs r)
theorem C_inI {x : AV} {ns : List Int} {k : Int} {Q : AV → St → Prop} (hx : lstOf σ x = some (ns.map .int)) (h : Q (.bool (ns.any (· == k))) σ) : AWh g C X (VR g.prog g.w) [.int k, x] (val2 (compareOp .In)) Q σ :=
  AWh.here h fun Y Z W hh tk r vs hv Qc Ec q => by
    obtain ⟨v, u, rfl, h1, h2⟩ := vrs2 hv
    obtain ⟨t, rfl⟩ := vr_int h1
    obtain ⟨mF, kd, Cs, r⟩ := r
    obtain ⟨a, vs, o, rfl, k2, k3, k4⟩ := r.list hx h2
    exact in_list_ints (s := g.mk' hh tk) (k3.is k2) (vrs_ints k4) (q (.bool _) hh tk (fun _ _ e => e) (.f .bool))
theorem C_ninI {x : AV} {ns : List Int} {k : Int} {Q : AV → St → Prop} (hx : lstOf σ x = some (ns.map .int)) (h : Q (.bool (!ns.any (· == k))) σ) : AWh g C X (VR g.prog g.w) [.int k, x] (val2 (compareOp .NotIn)) Q σ :=
  AWh.here h fun Y Z W hh tk r vs hv Qc Ec q => by
    obtain ⟨v, u, rfl, h1, h2⟩ := vrs2 hv
    obtain ⟨t, rfl⟩ := vr_int h1
    obtain ⟨mF, kd, Cs, r⟩ := r
    obtain ⟨a, vs, o, rfl, k2, k3, k4⟩ := r.list hx h2
    exact notin_list_ints (s := g.mk' hh tk) (k3.is k2) (vrs_ints k4) (q (.bool _) hh tk (fun _ _ e => e) (.f .bool))
theorem C_inS {x : AV} {ns : List Str} {k : Str} {Q : AV → St → Prop} (hx : lstOf σ x = some (ns.map .str)) (h : Q (.bool (ns.any (· == k))) σ) : AWh g C X (VR g.prog g.w) [.str k, x] (val2 (compareOp .In)) Q σ :=
  AWh.here h fun Y Z W hh tk r vs hv Qc Ec q => by
    obtain ⟨v, u, rfl, h1, h2⟩ := vrs2 hv
    obtain ⟨t, rfl⟩ := vr_str h1
    obtain ⟨mF, kd, Cs, r⟩ := r
    obtain ⟨a, vs, o, rfl, k2, k3, k4⟩ := r.list hx h2
    exact in_list_strs (s := g.mk' hh tk) (k3.is k2) (vrs_strs k4) (q (.bool _) hh tk (fun _ _ e => e) (.f .bool))
theorem C_ninS {x : AV} {ns : List Str} {k : Str} {Q : AV → St → Prop} (hx : lstOf σ x = some (ns.map .str)) (h : Q (.bool (!ns.any (· == k))) σ) : AWh g C X (VR g.prog g.w) [.str k, x] (val2 (compareOp .NotIn)) Q σ :=
  AWh.here h fun Y Z W hh tk r vs hv Qc Ec q => by
    obtain ⟨v, u, rfl, h1, h2⟩ := vrs2 hv
    obtain ⟨t, rfl⟩ := vr_str h1
    obtain ⟨mF, kd, Cs, r⟩ := r
    obtain ⟨a, vs, o, rfl, k2, k3, k4⟩ := r.list hx h2
    exact notin_list_strs (s := g.mk' hh tk) (k3.is k2) (vrs_strs k4) (q (.bool _) hh tk (fun _ _ e => e) (.f .bool))

/-- isinstance(v, Vector), v made by that class -/
theorem L_isi {x : AV} {c : Addr} {ks : List Str} {xs : List AV} {Q : AV → St → Prop} (ok : Ok g C n) (hx : insOf σ x = some (c, ks, xs)) (hc : isIn g.K (.ref c) c = true) (h : Q (.bool true) σ) : AWh g C X (VR g.prog g.w) [x, .cst (.ref c)] (fun vs => call (.builtin "isinstance") vs) Q σ :=
  AWh.here h fun Y Z W hh tk r vs hv Qc Ec q => by
    obtain ⟨v, u, rfl, h1, h2⟩ := vrs2 hv
    cases vr_cst h2
    have rX := r.inK ok
    obtain ⟨mF, kd, Cs, r⟩ := r
    obtain ⟨a, dx, es, m, rfl, k2, k3, k4⟩ := r.inst hx h1
    exact isi_call (s := g.mk' hh tk) rX (fun M => (Looks.ld k2).andThen .now) hc (by intro e; cases e) (q (.bool _) hh tk (fun _ _ e => e) (.f .bool))
end

section
variable {g : Gl} {C : Cx} {X : XC} {σ : St} {n : Nat}

theorem cast_min (k n : Nat) : ((min k n : Nat) : Int) = min (k : Int) (n : Int) := by
  rcases Nat.le_total k n with h | h
  · rw [Nat.min_eq_left h, Int.min_eq_left (Int.ofNat_le.mpr h)]
  · rw [Nat.min_eq_right h, Int.min_eq_right (Int.ofNat_le.mpr h)]
theorem sliceBounds_upto (k n : Nat) : sliceBounds none (some (k : Int)) none n = sliceBounds none (some ((min k n : Nat) : Int)) none n := by
  unfold sliceBounds
  refine Prod.ext rfl (Prod.ext ?_ rfl)
  show max 0 (min (if (k : Int) < 0 then (k : Int) + n else k) (n : Int)) = max 0 (min (if ((min k n : Nat) : Int) < 0 then ((min k n : Nat) : Int) + n else ((min k n : Nat) : Int)) (n : Int))
  rw [if_neg (Int.not_lt.mpr (Int.natCast_nonneg k)), if_neg (Int.not_lt.mpr (Int.natCast_nonneg (min k n))), cast_min, Int.min_assoc, Int.min_self]
theorem slicePick_take (items : Array Value) (k : Nat) : slicePick items none (some (k : Int)) none = (items.toList.take k).toArray := by
  have e : slicePick items none (some (k : Int)) none = slicePick items none (some ((min k items.size : Nat) : Int)) none := by
    unfold slicePick
    rw [sliceBounds_upto]
  rw [e, slicePick_upto _ _ (Nat.min_le_right _ _)]
  congr 1
  rw [← List.take_take, show items.size = items.toList.length from by simp, List.take_length]

theorem VFs.take {prog : Program} {w : World} {Z : Fz} : ∀ (n : Nat) {xs : List FV} {vs : List Value}, VFs prog w Z xs vs → VFs prog w Z (xs.take n) (vs.take n)
  | 0, _, _, _ => by simpa using VFs.nil
  | n + 1, _, _, .nil => by simpa using VFs.nil
  | n + 1, _, _, .cons a r => .cons a (VFs.take n r)
theorem VFs.drop {prog : Program} {w : World} {Z : Fz} : ∀ (n : Nat) {xs : List FV} {vs : List Value}, VFs prog w Z xs vs → VFs prog w Z (xs.drop n) (vs.drop n)
  | 0, _, _, x => x
  | n + 1, _, _, .nil => by simpa using VFs.nil
  | n + 1, _, _, .cons _ r => by simpa using VFs.drop n r
theorem VFs.append {prog : Program} {w : World} {Z : Fz} : ∀ {xs ys : List FV} {vs us : List Value}, VFs prog w Z xs vs → VFs prog w Z ys us → VFs prog w Z (xs ++ ys) (vs ++ us)
  | _, _, _, _, .nil, y => y
  | _, _, _, _, .cons a r, y => .cons a (VFs.append r y)

theorem R_sliceU {value e : Expr} {p pos : Pos} {Q : AV → St → Prop}
    (h : AW g C X (eval value C.env) (fun o σ₁ => AW g C X (eval e C.env) (fun u σ₂ => ∃ (ys : List FV) (k : Int), u = .int k ∧ 0 ≤ k ∧ lstOf σ₂ o = some (ys.map .f) ∧ ys.length ≤ 2 ^ 20 ∧ Q (.f (.lst (ys.take k.toNat))) σ₂) σ₁) σ) :
    AW g C X (eval (.Subscript value (.Slice none (some e) none p) pos) C.env) Q σ := by
  intro Y Z W hh tk rr Qc Ec q e'
  refine Subscript_ (h Y Z W hh tk rr _ Ec (fun a σ₁ v₁ Z₁ W₁ h₁ t₁ p₁ r₁ f₁ w₁ x₁ => ?_) e')
  refine wpAny_Slice (wpAny_of_eq (evalPart_none _) ?_)
  rw [evalPart_some]
  refine p₁ Y Z₁ W₁ h₁ t₁ r₁ _ Ec (fun b σ₂ v₂ Z₂ W₂ h₂ t₂ p₂ r₂ f₂ w₂ x₂ => ?_) fun e'' s' z => e' e'' s' (X.mono f₁ z)
  obtain ⟨ys, k, rfl, hk0, hl, hz, hq⟩ := p₂
  obtain ⟨t, rfl⟩ := vr_int x₂
  rw [evalPart_none]
  refine wpAny_pure ?_
  obtain ⟨mF, kd, Cs, r₂⟩ := r₂
  obtain ⟨a', vs, o, rfl, k2, k3, k4⟩ := r₂.list hl (x₁.up f₂ w₂)
  have hlen := k4.len
  rw [List.length_map] at hlen
  have hL : (h₂.push { cls := .type "slice", data := .fields #[.none, .int k t, .none] }).IsList a' vs.toArray := k3.is (push_keeps h₂ _ _ _ k2)
  refine tail_any (T := "list") hL.typeIs slot_list_getitem.lookup (wpAny_getItem_list_slice (s := g.mk' _ t₂) hL (Heap.IsSliceOf.new h₂ .none (.int k t) .none) .none (.int k t) .none (by simp) ?_ (by rw [List.size_toArray, ← hlen, sizeLine_eq]; omega)) rfl
  have hke : ∀ (k : Int), 0 ≤ k → slicePick vs.toArray none (some k) none = (vs.take k.toNat).toArray := fun k hk => by
    have := slicePick_take vs.toArray k.toNat
    rw [Int.toNat_of_nonneg hk] at this
    exact this
  rw [hke k hk0]
  have kk : ∀ b o, h₂.get? b = some o → (h₂.push { cls := .type "slice", data := .fields #[.none, .int k t, .none] }).get? b = some o := push_keeps h₂ _
  have r₃ := r₂.keeps kk
  obtain ⟨r₄, f₄⟩ := r₃.newZ (push_keeps _ (listOf (vs.take k.toNat).toArray 0)) (push_new _) (Heap.get?_push_size _ rfl)
  exact q _ σ₂ _ _ W₂ _ t₂ hq ⟨_, _, _, r₄⟩ ((f₁.trans f₂).trans f₄) (w₁.trans w₂) (.f (.lst (.head _) ⟨0, rfl⟩ ((k4.vfs.take _).mono f₄)))
theorem R_sliceL {value e : Expr} {p pos : Pos} {Q : AV → St → Prop}
    (h : AW g C X (eval value C.env) (fun o σ₁ => AW g C X (eval e C.env) (fun u σ₂ => ∃ (ys : List FV) (k : Int), u = .int k ∧ 0 ≤ k ∧ lstOf σ₂ o = some (ys.map .f) ∧ k.toNat ≤ ys.length ∧ ys.length ≤ 2 ^ 20 ∧ Q (.f (.lst (ys.drop k.toNat))) σ₂) σ₁) σ) :
    AW g C X (eval (.Subscript value (.Slice (some e) none none p) pos) C.env) Q σ := by
  intro Y Z W hh tk rr Qc Ec q e'
  refine Subscript_ (h Y Z W hh tk rr _ Ec (fun a σ₁ v₁ Z₁ W₁ h₁ t₁ p₁ r₁ f₁ w₁ x₁ => ?_) e')
  refine wpAny_Slice ?_
  rw [evalPart_some]
  refine p₁ Y Z₁ W₁ h₁ t₁ r₁ _ Ec (fun b σ₂ v₂ Z₂ W₂ h₂ t₂ p₂ r₂ f₂ w₂ x₂ => ?_) fun e'' s' z => e' e'' s' (X.mono f₁ z)
  obtain ⟨ys, k, rfl, hk0, hl, hkl, hz, hq⟩ := p₂
  obtain ⟨t, rfl⟩ := vr_int x₂
  rw [evalPart_none]
  refine wpAny_pure (wpAny_pure ?_)
  obtain ⟨mF, kd, Cs, r₂⟩ := r₂
  obtain ⟨a', vs, o, rfl, k2, k3, k4⟩ := r₂.list hl (x₁.up f₂ w₂)
  have hlen := k4.len
  rw [List.length_map] at hlen
  have hL : (h₂.push { cls := .type "slice", data := .fields #[.int k t, .none, .none] }).IsList a' vs.toArray := k3.is (push_keeps h₂ _ _ _ k2)
  refine tail_any (T := "list") hL.typeIs slot_list_getitem.lookup (wpAny_getItem_list_slice (s := g.mk' _ t₂) hL (Heap.IsSliceOf.new h₂ (.int k t) .none .none) (.int k t) .none .none (by simp) ?_ (by rw [List.size_toArray, ← hlen, sizeLine_eq]; omega)) rfl
  have hke : slicePick vs.toArray (some k) none none = (vs.drop k.toNat).toArray := by
    have := slicePick_from vs.toArray k.toNat (by rw [List.size_toArray]; omega)
    rw [Int.toNat_of_nonneg hk0] at this
    exact this
  rw [hke]
  have kk : ∀ b o, h₂.get? b = some o → (h₂.push { cls := .type "slice", data := .fields #[.int k t, .none, .none] }).get? b = some o := push_keeps h₂ _
  have r₃ := r₂.keeps kk
  obtain ⟨r₄, f₄⟩ := r₃.newZ (push_keeps _ (listOf (vs.drop k.toNat).toArray 0)) (push_new _) (Heap.get?_push_size _ rfl)
  exact q _ σ₂ _ _ W₂ _ t₂ hq ⟨_, _, _, r₄⟩ ((f₁.trans f₂).trans f₄) (w₁.trans w₂) (.f (.lst (.head _) ⟨0, rfl⟩ ((k4.vfs.drop _).mono f₄)))

/-- 'text'[:k] -/
theorem R_sliceS {value e : Expr} {p pos : Pos} {Q : AV → St → Prop}
    (h : AW g C X (eval value C.env) (fun o σ₁ => AW g C X (eval e C.env) (fun u σ₂ => ∃ (x : Str) (k : Int) (y : Str), o = .str x ∧ u = .int k ∧ x.length ≤ 2 ^ 20 ∧ (∀ t u, (sliceMade x u none (some (k, t)) none = .val (.str x u) ∧ y = x) ∨ sliceMade x u none (some (k, t)) none = .str y) ∧ y.length ≤ 2 ^ 20 ∧ Q (.str y) σ₂) σ₁) σ) :
    AW g C X (eval (.Subscript value (.Slice none (some e) none p) pos) C.env) Q σ := by
  intro Y Z W hh tk rr Qc Ec q e'
  refine Subscript_ (h Y Z W hh tk rr _ Ec (fun a σ₁ v₁ Z₁ W₁ h₁ t₁ p₁ r₁ f₁ w₁ x₁ => ?_) e')
  refine wpAny_Slice (wpAny_of_eq (evalPart_none _) ?_)
  rw [evalPart_some]
  refine p₁ Y Z₁ W₁ h₁ t₁ r₁ _ Ec (fun b σ₂ v₂ Z₂ W₂ h₂ t₂ p₂ r₂ f₂ w₂ x₂ => ?_) fun e'' s' z => e' e'' s' (X.mono f₁ z)
  obtain ⟨x, k, y, rfl, rfl, hz, hy, hzy, hq⟩ := p₂
  obtain ⟨t, rfl⟩ := vr_int x₂
  obtain ⟨tx, rfl⟩ := vr_str x₁
  rw [evalPart_none]
  refine wpAny_pure ?_
  obtain ⟨mF, kd, Cs, r₂⟩ := r₂
  have r₃ := r₂.keeps (push_keeps h₂ { cls := .type "slice", data := .fields #[.none, .int k t, .none] })
  refine tail_any (T := "str") (typeIs_str _ _ _) PySem.F.slot_str_getitem.lookup (wpAny_getItem_str_slice (l := none) (u := some (k, t)) (st := none) ⟨_, Heap.get?_push_size _ rfl, rfl, rfl⟩ rfl ?_) rfl
  rcases hy t tx with ⟨e1, rfl⟩ | e1
  · rw [e1]
    exact q _ σ₂ _ _ W₂ _ t₂ hq ⟨_, _, _, r₃⟩ (f₁.trans f₂) (w₁.trans w₂) (.f .str)
  · rw [e1]
    exact ⟨by rw [sizeLine_eq]; omega, q _ σ₂ _ _ W₂ _ _ hq ⟨_, _, _, r₃⟩ (f₁.trans f₂) (w₁.trans w₂) (.f .str)⟩

/-- two lists, one behind the other -/
theorem B_addL {a b : AV} {xs ys : List FV} {Q : AV → St → Prop} (ha : lstOf σ a = some (xs.map .f)) (hb : lstOf σ b = some (ys.map .f)) (hz : xs.length + ys.length ≤ 2 ^ 20) (h : Q (.f (.lst (xs ++ ys))) σ) : AWh g C X (VR g.prog g.w) [a, b] (val2 (binaryOp .Add)) Q σ := by
  intro Y Z W hh tk r vs hv Qc Ec q e
  obtain ⟨v, u, rfl, h1, h2⟩ := vrs2 hv
  obtain ⟨mF, kd, Cs, r⟩ := r
  obtain ⟨a1, vs1, o1, rfl, k2, k3, k4⟩ := r.list ha h1
  obtain ⟨a2, vs2, o2, rfl, l2, l3, l4⟩ := r.list hb h2
  have e1 := k4.len
  have e2 := l4.len
  rw [List.length_map] at e1 e2
  have nl : ∀ h' : Heap, Fr C.h₀ C.L h' mF → News C.h₀ C.L h' ((hh.objs.size, listOf (vs1 ++ vs2).toArray 0) :: ledger kd Cs Y Z W) → Qc (.ref hh.objs.size) (g.mk' h' tk) := fun h' F N => by
    have pm := ledger_z (kd := kd) (Cs := Cs) (Y := Y) (Z := Z) (W := W) (hh.objs.size, listOf (vs1 ++ vs2).toArray 0)
    have f : FLe Z ⟨(hh.objs.size, listOf (vs1 ++ vs2).toArray 0) :: Z.z, Z.d⟩ := ⟨fun q hq => .tail _ hq, fun _ es n hq => ⟨es, n, hq, DS.refl es⟩⟩
    have nd : ((ledger kd Cs Y ⟨(hh.objs.size, listOf (vs1 ++ vs2).toArray 0) :: Z.z, Z.d⟩ W).map (·.1)).Nodup := by
      rw [(pm.map (·.1)).nodup_iff, List.map_cons, List.nodup_cons]
      refine ⟨fun hm => ?_, r.nd⟩
      obtain ⟨p, hp, e⟩ := List.mem_map.mp hm
      exact (r.fresh (push_new hh)).2.2 p hp e
    exact q _ σ _ _ W h' tk h ⟨mF, kd, Cs, ⟨F, newsPerm N pm, nd, r.lo.mono f (fun _ _ e => e), r.or.mono f (fun _ _ e => e)⟩⟩ f (PLe.refl _) (.f (.lst (.head _) ⟨0, rfl⟩ ((k4.vfs.append l4.vfs).mono f)))
  exact add_arrays (s := g.mk' hh tk) r.fr r.nw (k3.is k2) (l3.is l2) (fun h' F N => nl h' F N) (by rw [List.size_toArray, List.size_toArray, sizeLine_eq]; omega)

/-- [x] * k, a new list that may change -/
theorem B_mulL {a : AV} {x : AV} {k : Int} {Q : AV → St → Prop} (ha : lstOf σ a = some [x]) (h0 : 0 ≤ k) (hk : k ≤ 2 ^ 20) (h : Q (.ref σ.heap.length) ⟨σ.heap ++ [.lst (List.replicate k.toNat x)], σ.loc⟩) : AWh g C X (VR g.prog g.w) [a, .int k] (val2 (binaryOp .Mult)) Q σ := by
  intro Y Z W hh tk r vs hv Qc Ec q e
  obtain ⟨v, u, rfl, h1, h2⟩ := vrs2 hv
  obtain ⟨t, rfl⟩ := vr_int h2
  obtain ⟨mF, kd, Cs, r⟩ := r
  obtain ⟨a1, vs1, o1, rfl, k2, ⟨m, rfl⟩, k4⟩ := r.list ha h1
  cases k4 with | cons k4 k5 => cases k5 with | nil =>
  rename_i v
  have hW : σ.heap.length = W.length := r.or.len
  have ef : ∀ n : Nat, List.foldl (fun x1 x2 => x1 ++ x2) #[] (List.replicate n #[v]) = (List.replicate n v).toArray := by
    have : ∀ (n : Nat) (acc : Array Value), List.foldl (fun x1 x2 => x1 ++ x2) acc (List.replicate n #[v]) = acc ++ (List.replicate n v).toArray := by
      intro n
      induction n with
      | zero => intro acc; simp
      | succ n ih => intro acc; rw [List.replicate_succ, List.foldl_cons, ih, List.replicate_succ]; apply Array.toList_inj.mp; simp
    intro n; rw [this]; simp
  have vr : ∀ n : Nat, VRs g.prog g.w Z (adr W) (List.replicate n x) (List.replicate n v) := fun n => by
    induction n with
    | zero => exact .nil
    | succ n ih => exact .cons k4 ih
  refine mul_list (s := g.mk' hh tk) r.fr r.nw k2 (by omega) (by omega) (by simp; omega) fun h' F N => ?_
  have e3 : (if (#[v] : Array Value).isEmpty = true then 0 else k.toNat) = k.toNat := by simp
  have N' : News C.h₀ C.L h' ((hh.objs.size, listOf (List.replicate k.toNat v).toArray 0) :: ledger kd Cs Y Z W) := by
    have := N
    rw [show ([v] : List Value).toArray = #[v] from rfl, e3, ef] at this
    exact this
  have p : PLe (adr W) (adr (W ++ [⟨hh.objs.size, [(hh.objs.size, listOf (List.replicate k.toNat v).toArray 0)]⟩])) := by rw [adr_append]; exact ⟨_, rfl⟩
  have r' := r.newWN (e := ⟨hh.objs.size, [(hh.objs.size, listOf (List.replicate k.toNat v).toArray 0)]⟩) (x := .lst (List.replicate k.toNat x)) F N' (by
      show (hh.objs.size :: (ledger kd Cs Y Z W).map (·.1)).Nodup
      refine List.nodup_cons.mpr ⟨fun hm => ?_, r.nd⟩
      obtain ⟨p, hp, e⟩ := List.mem_map.mp hm
      exact (r.fresh (push_new hh)).2.2 p hp e) (.lst ⟨0, rfl⟩ ((vr k.toNat).mono (FLe.refl Z) fun i b q => PLe.get ⟨_, rfl⟩ q))
  refine q _ _ _ Z _ h' tk h ⟨mF, kd, Cs, r'⟩ (FLe.refl Z) p (.ref ?_)
  rw [adr_append, hW]
  unfold adr
  rw [List.getElem?_append_right (by rw [List.length_map]; exact Nat.le_refl _), List.length_map, Nat.sub_self]
  rfl
end


theorem TO.is {h : Heap} {a : Addr} {o : Obj} {vs : List Value} (x : TO o vs) (e : h.get? a = some o) : PyProof.Rows.IsTup h a vs.toArray := by
  obtain ⟨n, rfl⟩ := x
  exact ⟨_, e, rfl, n, rfl⟩

/-- the turns of a while loop, at most n -/
noncomputable def WhileQ (g : Gl) (C : Cx) (test : Expr) (body orelse : List Stmt) (Q : AF → St → Prop) : Nat → St → Prop
  | 0, _ => False
  | n + 1, σ => AWb g C XC.no (isTrue test C.env (eval test C.env)) (fun b σ₁ =>
      (b = true → AX g C XC.no (execs body C.env) (fun f σ₂ => match f with
        | .next => WhileQ g C test body orelse Q n σ₂
        | .cont => WhileQ g C test body orelse Q n σ₂
        | .brk => Q .next σ₂
        | .ret v => Q (.ret v) σ₂) σ₁) ∧
      (b = false → AX g C XC.no (execs orelse C.env) Q σ₁)) σ

section
variable {g : Gl} {C : Cx} {X : XC} {σ : St} {n : Nat}

inductive WhileI (g : Gl) (C : Cx) (test : Expr) (body orelse : List Stmt) (Q : AF → St → Prop) (Y : Led) (Z : Fz) (W : List Ent) (n : Nat) (s : Shared) : Prop
  | mk (Z' : Fz) (W' : List Ent) (h' : Heap) (tk' : Nat) (σ' : St) (hs : s = g.mk' h' tk') (hw : WhileQ g C test body orelse Q n σ') (hr : Rel g C Y Z' W' σ' h') (hf : FLe Z Z') (hc : PC C (adr W) (adr W'))
theorem X_while {test : Expr} {body orelse : List Stmt} {pos : Pos} {Q : AF → St → Prop} (k : Nat) (h : WhileQ g C test body orelse Q k σ) : AX g C X (exec (.While test body orelse pos) C.env) Q σ := by
  intro Y Z W hh tk r Qc Ec q e
  refine wpAny_While (codeAny_whileLoop (WhileI g C test body orelse Q Y Z W) ?_ k ⟨Z, W, hh, tk, σ, rfl, h, r, FLe.refl Z, PC.refl _⟩)
  rintro n s ⟨Z', W', h', tk', σ', rfl, hw, r', f', c'⟩
  cases n with
  | zero => exact hw.elim
  | succ n =>
    refine hw Y Z' W' h' tk' r' _ _ (fun b σ₁ v Z₁ W₁ h₁ t₁ p₁ r₁ f₁ w₁ x₁ => ?_) fun _ _ z => z.elim
    subst x₁
    cases v with
    | false =>
      simp only [Bool.false_eq_true, if_false]
      exact p₁.2 rfl Y Z₁ W₁ h₁ t₁ r₁ _ _ (fun b σ₂ u Z₂ W₂ h₂ t₂ hq r₂ f₂ c₂ x₂ => q b σ₂ u Z₂ W₂ h₂ t₂ hq r₂ ((f'.trans f₁).trans f₂) ((c'.trans w₁.pc).trans c₂) x₂) fun _ _ z => z.elim
    | true =>
      simp only [if_true]
      refine p₁.1 rfl Y Z₁ W₁ h₁ t₁ r₁ _ _ (fun b σ₂ u Z₂ W₂ h₂ t₂ hq r₂ f₂ c₂ x₂ => ?_) fun _ _ z => z.elim
      cases x₂ with
      | next => exact ⟨n, Nat.lt_succ_self n, Z₂, W₂, h₂, t₂, σ₂, rfl, hq, r₂, (f'.trans f₁).trans f₂, (c'.trans w₁.pc).trans c₂⟩
      | cont => exact ⟨n, Nat.lt_succ_self n, Z₂, W₂, h₂, t₂, σ₂, rfl, hq, r₂, (f'.trans f₁).trans f₂, (c'.trans w₁.pc).trans c₂⟩
      | brk => exact q .next σ₂ .next Z₂ W₂ h₂ t₂ hq r₂ ((f'.trans f₁).trans f₂) ((c'.trans w₁.pc).trans c₂) .next
      | ret hv => exact q _ σ₂ _ Z₂ W₂ h₂ t₂ hq r₂ ((f'.trans f₁).trans f₂) ((c'.trans w₁.pc).trans c₂) (.ret hv)

/-- x += k, an int in a local -/
theorem X_aug {S : List Slot} (hsl : C.slots = S) {x : Str} {pos' pos : Pos} {value : Expr} {Q : AF → St → Prop} (ok : Ok g C n) {i : Int} (hl : Load S σ.loc x (.int i))
    (h : AW g C X (eval value C.env) (fun v σ₂ => ∃ j, v = .int j ∧ Bind C σ₂ x (.int (i + j)) (Q .next)) σ) : AX g C X (exec (.AugAssign (.Name x pos') .Add value pos) C.env) Q σ := by
  intro Y Z W hh tk r Qc Ec q e
  have r₀ := r
  obtain ⟨mF, kd, Cs, r⟩ := r
  obtain ⟨m, hn, sr⟩ := r.ns ok
  have fin : ∀ u, VR g.prog g.w Z (adr W) (.int i) u → wpAny (model g.prog g.w) C.A (eval value C.env) (fun v s₂ => wpAny (model g.prog g.w) C.A (inplaceOp .Add u v) (fun r s₃ => wpAny (model g.prog g.w) C.A (storeName C.env x r) (fun _ => Qc .next) Ec s₃) Ec s₂) Ec (g.mk' hh tk) := by
    intro u hu
    obtain ⟨t, rfl⟩ := vr_int hu
    refine h Y Z W hh tk r₀ _ Ec (fun b σ₂ v₂ Z₂ W₂ h₂ t₂ p₂ r₂ f₂ w₂ x₂ => ?_) e
    obtain ⟨j, rfl, loc', st, hq⟩ := p₂
    obtain ⟨t', rfl⟩ := vr_int x₂
    refine P.iadd_int ?_
    exact store_name ok r₂ st (.f .int) fun h' tk' r' => q .next _ .next Z₂ W₂ h' tk' hq r' f₂ w₂.pc .next
  refine wpAny_AugAssign_Name ?_
  subst hsl
  rcases hl.sr sr with ⟨h1, u, h2, h3⟩ | ⟨a, o, u, h1, h2, h3, h4⟩
  · exact wpAny_loadName_local ok.ek (ok.kl _ h1) hn h2 (fin u h3)
  · obtain ⟨k1, k2⟩ := ok.kc _ _ h1
    have : hh.IsCell a (some u) := ⟨o, (r.nw (a, o) (by unfold ledger; simp only [List.mem_append]; exact .inr (.inl h2))).1, h3⟩
    exact wpAny_loadName_cell ok.ek k1 k2 this (fin u h4)

noncomputable def PrT (g : Gl) (xs : List FV) (Z : Fz) (i : Nat) (it : Addr) (o : Obj) : Prop :=
  ∃ l vs lo, (l, lo) ∈ Z.z ∧ TO lo vs ∧ VFs g.prog g.w Z xs vs ∧ o.cls = .type "tuple_iterator" ∧ o.data = .fields #[.ref l, .int i 0]

/-- two names at once -/
theorem AS_two (ok : Ok g C n) {x y : Str} {px py pos : Pos} {k : Nat} {v : AV} {a b : FV} {Q : St → Prop} (hv : v = .f (.tup [a, b]) ∨ v = .f (.lst [a, b])) (h : Bind C σ x (.f a) (fun σ₁ => Bind C σ₁ y (.f b) Q)) :
    AWh g C X RU [v] (val1 (assign (.Tuple [.Name x px, .Name y py] k pos) C.env)) (fun _ => Q) σ := by
  intro Y Z W hh tk r vs hvs Qc Ec q e
  obtain ⟨u, rfl, h1⟩ := vrs1 hvs
  obtain ⟨loc', st, loc'', st', hq⟩ := h
  have fin : ∀ (va vb : Value) (h' : Heap) (tk' : Nat), VF g.prog g.w Z a va → VF g.prog g.w Z b vb → Rel g C Y Z W σ h' → wpAny (model g.prog g.w) C.A (assignInOrder ((assignEach [.Name x px, .Name y py] C.env).map (·.2)) [va, vb]) Qc Ec (g.mk' h' tk') := by
    intro va vb h' tk' ha hb r'
    refine assignInOrder_cons (t := assign (.Name x px) C.env) (PySem.wpAny_assign_Name (store_name ok r' st (.f ha) fun h₂ t₂ r₂ => ?_))
    refine assignInOrder_cons (t := assign (.Name y py) C.env) (PySem.wpAny_assign_Name (store_name ok r₂ st' (.f hb) fun h₃ t₃ r₃ => ?_))
    exact assignInOrder_nil (q () _ () Z W h₃ t₃ hq r₃ (FLe.refl Z) (PLe.refl _) trivial)
  have ext : ∀ {h' : Heap}, Heap.ExtBut hh.objs.size hh h' → Rel g C Y Z W σ h' := fun he => r.keeps fun b o hb => he b o (fun q => Nat.lt_irrefl _ (q ▸ Heap.lt_size hb)) hb
  have lc : ∀ (l : Addr) (va vb : Value), (g.mk' hh tk).heap.IsList l [va, vb].toArray → VF g.prog g.w Z a va → VF g.prog g.w Z b vb → wpAny (model g.prog g.w) C.A (assign (.Tuple [.Name x px, .Name y py] k pos) C.env (.ref l)) Qc Ec (g.mk' hh tk) := by
    intro l va vb hl ha hb
    have hlne : l ≠ hh.objs.size := by obtain ⟨o, ho, _⟩ := hl; exact fun q => Nat.lt_irrefl _ (q ▸ Heap.lt_size ho)
    rw [PyProof.Rows.assign_Tuple]
    refine wpAny_bind (wpAny_standAt ?_)
    unfold unpack
    refine wpAny_bind (wpAny_holding ?_)
    show wpAny _ _ (unpackItems _ 2 none) _ _ _
    unfold unpackItems
    refine wpAny_bind ?_
    unfold notIterableAtAll
    refine wpAny_bind (wpAny_specialOf hl.typeIs slot_list_iter.lookup ?_)
    refine wpAny_pure ?_
    simp only [Bool.false_eq_true, if_false]
    refine wpAny_bind (wpAny_holding (wpAny_pyIter_list hl ?_))
    have keep : ∀ b o, hh.get? b = some o → (hh.push { cls := .type "list_iterator", data := .fields #[.ref l, .int 0 0] }).get? b = some o := push_keeps hh _
    have hne : ∀ {b o}, hh.get? b = some o → b ≠ hh.objs.size := fun e q => Nat.lt_irrefl _ (q ▸ Heap.lt_size e)
    refine wpAny_bind (wpAny_holding ?_)
    show wpAny _ _ (pyNext _ >>= _) _ _ _
    refine wpAny_bind (wpAny_pyNext_list_item (i := 0) ⟨_, Heap.get?_push_size _ rfl, rfl, rfl⟩ (hl.at fun o e => keep _ o e) (x := va) rfl fun h₁ i₁ s₁ => ?_)
    refine wpAny_bind (wpAny_holding ?_)
    show wpAny _ _ (pyNext _ >>= _) _ _ _
    have l₁ : h₁.IsList _ [va, vb].toArray := (hl.at fun o e => keep _ o e).extBut s₁.extBut hlne
    refine wpAny_bind (wpAny_pyNext_list_item (s := { g.mk' hh tk with heap := h₁ }) (i := 1) i₁ l₁ (x := vb) rfl fun h₂ i₂ s₂ => ?_)
    refine wpAny_bind (wpAny_holding (wpAny_pure (wpAny_pure (wpAny_pure ?_))))
    dsimp only
    rw [if_neg (by simp)]
    have l₂ : h₂.IsList _ [va, vb].toArray := l₁.extBut s₂.extBut hlne
    refine wpAny_bind (wpAny_holding (wpAny_pyNext_list_end (s := { g.mk' hh tk with heap := h₂ }) ok.hh i₂ l₂ rfl fun h₃ e₃ => ?_))
    simp only [Option.isSome_none, Bool.false_eq_true, if_false]
    refine wpAny_pure (fin va vb h₃ tk ha hb (ext ?_))
    exact fun b o hb e => e₃ b o hb (s₂.extBut b o hb (s₁.extBut b o hb (keep b o e)))
  obtain ⟨mF, kd, Cs, r'⟩ := r
  rcases hv with rfl | rfl
  · cases h1 with | f h1 => cases h1 with | tup hz to rs => cases rs with | cons ha rs => cases rs with | cons hb rs => cases rs with | nil =>
    exact assign_Tuple_tuple (x1 := k) (s := g.mk' hh tk) ok.hh (to.is (r'.mem_z hz)) rfl rfl fun h' he => fin _ _ h' tk ha hb (ext he)
  · cases h1 with | f h1 => cases h1 with | lst hz lo rs => cases rs with | cons ha rs => cases rs with | cons hb rs => cases rs with | nil =>
    exact lc _ _ _ (lo.is (r'.mem_z hz)) ha hb

theorem X_assignT {elts : List Expr} {k : Nat} {tpos : Pos} {value : Expr} {pos : Pos} {Q : AF → St → Prop}
    (h : AW g C X (eval value C.env) (fun v σ₁ => AWh g C X RU [v] (val1 (assign (.Tuple elts k tpos) C.env)) (fun _ => Q .next) σ₁) σ)
    (hs : swapsWithSole [.Tuple elts k tpos] value pos.line C.env = pure false := by rfl)
    (hw : swappedStores [.Tuple elts k tpos] value C.env = pure none := by rfl) : AX g C X (exec (.Assign [.Tuple elts k tpos] value pos) C.env) Q σ := by
  intro Y Z W hh tk r Qc Ec q e
  refine Assign_Tuple (h Y Z W hh tk r _ Ec (fun a σ₁ v₁ Z₁ W₁ h₁ t₁ p₁ r₁ f₁ w₁ x₁ => ?_) e) hs hw
  exact p₁ Y Z₁ W₁ h₁ t₁ r₁ [v₁] (.cons x₁ .nil) _ Ec (fun b σ' v Z' W' h' tk' hq r' f' w' x' => q .next σ' _ Z' W' h' tk' hq r' (f₁.trans f') (w₁.trans w').pc .next) fun e' s' z => e e' s' (X.mono f₁ z)

theorem G_tup {value slice : Expr} {xs : List FV} {y : FV} {k : Int} {Q : AV → St → Prop} (h0 : 0 ≤ k) (hk : k < 2 ^ 62) (hy : xs[k.toNat]? = some y) (h : Q (.f y) σ)
    (hs : ∀ o i, subscripted slice false o i = operate [o, i] (getItem o i) := by intro _ _; with_unfolding_all rfl) : AWh g C X (VR g.prog g.w) [.f (.tup xs), .int k] (val2 (subscriptTail value slice)) Q σ :=
  AWh.here h fun Y Z W hh tk r vs hv Qc Ec q => by
    obtain ⟨v, u, rfl, h1, h2⟩ := vrs2 hv
    obtain ⟨t, rfl⟩ := vr_int h2
    obtain ⟨mF, kd, Cs, r⟩ := r
    cases h1 with | f h1 => cases h1 with | tup hz to rs =>
    obtain ⟨v, hv, hr⟩ := rs.get hy
    have hl := (List.getElem?_eq_some_iff.mp hv).1
    refine item_tupleT (s := g.mk' hh tk) (to.is (r.mem_z hz)) (by omega) (by omega) (j := k.toNat) ?_ hv (q v hh tk (fun _ _ e => e) (.f hr)) (hs _ _)
    unfold seqIndex?
    simp only [show ¬ (k < 0) from by omega, if_false]
    rw [if_pos (by rw [Bool.and_eq_true, decide_eq_true_eq, decide_eq_true_eq]; omega)]

theorem H_i {α β : Type} {R : Fz → List Addr → β → α → Prop} {f : List Value → Sem α} {i : Int} {Q : β → St → Prop} {b : β} (hq : Q b σ)
    (h : ∀ t s (Qc : α → Shared → Prop) (Ec : Value → Shared → Prop), (∀ v tk, (∀ Z φ, R Z φ b v) → Qc v { s with toks := tk }) → wpAny (model g.prog g.w) C.A (f [.int i t]) Qc Ec s) : AWh g C X R [.int i] f Q σ :=
  AWh.here hq fun Y Z W hh tk r vs hv Qc Ec q => by
    obtain ⟨v, rfl, h1⟩ := vrs1 hv
    obtain ⟨t, rfl⟩ := vr_int h1
    exact h t _ Qc Ec fun v tk' hr => q v hh tk' (fun _ _ e => e) (hr _ _)
theorem L_abs {i : Int} {Q : AV → St → Prop} (h : Q (.int (if i < 0 then -i else i)) σ) : AWh g C X (VR g.prog g.w) [.int i] (fun vs => call (.builtin "abs") vs) Q σ :=
  H_i h fun t s Qc Ec q => call_abs_int fun u tk => q _ tk fun _ _ => .f .int
theorem L_str {i : Int} {Q : AV → St → Prop} (hi : i.natAbs.log2 < 1920) (h : Q (.str (Str.ofString (toString i))) σ) : AWh g C X (VR g.prog g.w) [.int i] (fun vs => call (.type "str") vs) Q σ :=
  H_i h fun t s Qc Ec q => P.str_of_int hi (q _ _ fun _ _ => .f .str)
theorem L_range1 {b : Int} {Q : AV → St → Prop} (h : Q (.f (.rng 0 b)) σ) : AWh g C X (VR g.prog g.w) [.int b] (fun vs => call (.type "range") vs) Q σ := by
  intro Y Z W hh tk r vs hv Qc Ec q e
  obtain ⟨v, rfl, h1⟩ := vrs1 hv
  obtain ⟨t, rfl⟩ := vr_int h1
  obtain ⟨mF, kd, Cs, r⟩ := r
  refine call_range_1 (s := g.mk' hh tk) ?_
  obtain ⟨r', f'⟩ := r.newZ (push_keeps hh (rngOf 0 b tk t (tk + 1))) (push_new hh) (Heap.get?_push_size hh rfl)
  exact q _ _ _ _ W _ _ h ⟨mF, kd, Cs, r'⟩ f' (PLe.refl _) (.f (.rng (.head _)))
theorem L_range2 {a b : Int} {Q : AV → St → Prop} (h : Q (.f (.rng a b)) σ) : AWh g C X (VR g.prog g.w) [.int a, .int b] (fun vs => call (.type "range") vs) Q σ := by
  intro Y Z W hh tk r vs hv Qc Ec q e
  obtain ⟨v, u, rfl, h1, h2⟩ := vrs2 hv
  obtain ⟨t, rfl⟩ := vr_int h1
  obtain ⟨t', rfl⟩ := vr_int h2
  obtain ⟨mF, kd, Cs, r⟩ := r
  refine call_range_2 (s := g.mk' hh tk) ?_
  obtain ⟨r', f'⟩ := r.newZ (push_keeps hh (rngOf a b t t' tk)) (push_new hh) (Heap.get?_push_size hh rfl)
  exact q _ _ _ _ W _ _ h ⟨mF, kd, Cs, r'⟩ f' (PLe.refl _) (.f (.rng (.head _)))
theorem L_starts {x y : Str} {Q : AV → St → Prop} (h : Q (.bool (Txt.startswith x y)) σ) : AWh g C X (VR g.prog g.w) [.str x, .str y] (fun vs => call (.builtin "str.startswith") vs) Q σ :=
  AWh.here h fun Y Z W hh tk r vs hv Qc Ec q => by
    obtain ⟨v, u, rfl, h1, h2⟩ := vrs2 hv
    obtain ⟨t, rfl⟩ := vr_str h1
    obtain ⟨t', rfl⟩ := vr_str h2
    exact PySem.SC.startswith (q (.bool _) hh tk (fun _ _ e => e) (.f .bool))
end

section
variable {g : Gl} {C : Cx} {X : XC} {σ : St} {n : Nat} {Y : Led} {Z : Fz} {W : List Ent} {h h' : Heap} {mF : Str → Option Value} {kd Cs : Led} {a : Addr} {o o' : Obj}

theorem RelM.consY (r : RelM g C Y Z W σ h mF kd Cs) (F : Fr C.h₀ C.L h' mF) (N : News C.h₀ C.L h' ((a, o) :: ledger kd Cs Y Z W)) (hn : ∀ p ∈ ledger kd Cs Y Z W, p.1 ≠ a) : RelM g C ((a, o) :: Y) Z W σ h' mF kd Cs := by
  refine ⟨F, newsPerm N (ledger_y _), ?_, r.lo, r.or⟩
  rw [((ledger_y (a, o)).map (·.1)).nodup_iff, List.map_cons, List.nodup_cons]
  refine ⟨fun hm => ?_, r.nd⟩
  obtain ⟨p, hp, e⟩ := List.mem_map.mp hm
  exact hn p hp e
theorem RelM.turnYX (r : RelM g C ((a, o) :: Y) Z W σ h mF kd Cs) (hs : Heap.ExtBut a h h') (hg : h'.get? a = some o') : RelM g C ((a, o') :: Y) Z W σ h' mF kd Cs := by
  obtain ⟨h1, h2, h3, h4⟩ := r.headY
  have r' := r.extY hs
  refine r'.consY r'.fr (fun q hq => ?_) h4
  rcases List.mem_cons.mp hq with rfl | hq
  · exact ⟨hg, h2, h3⟩
  · exact r'.nw q hq

theorem strs_vfs {Z : Fz} : ∀ {vs : List Value} {ss : List Str}, PyProof.Rows.StrsAre vs ss → VFs g.prog g.w Z (ss.map .str) vs
  | _, _, .nil => .nil
  | _, _, .cons y t r => .cons .str (strs_vfs r)

theorem strs_of {ks : List Str} {us : List Value} : ∀ {vs : List Value}, vs.length = (ks.zip us).length → ks.length = us.length → (∀ (j : Nat) (v : Value), vs[j]? = some v → ∃ k x, (ks.zip us)[j]? = some (k, x) ∧ (PySem.strKind g.prog g.w).is k v = true) → PyProof.Rows.StrsAre vs ks := by
  induction ks generalizing us with
  | nil => intro vs h1 _ _; rw [List.zip_nil_left] at h1; rw [List.length_eq_zero_iff.mp h1]; exact .nil
  | cons k ks ih =>
    intro vs h1 h2 h3
    cases us with
    | nil => cases h2
    | cons u us =>
      cases vs with
      | nil => cases h1
      | cons v vs =>
        obtain ⟨k', x, e, hk⟩ := h3 0 v rfl
        rw [List.zip_cons_cons, List.getElem?_cons_zero] at e
        cases e
        obtain ⟨t, rfl⟩ := Value.isStrOf_shape hk
        refine .cons k t (ih (us := us) (by simpa using h1) (by simpa using h2) fun j w hw => ?_)
        obtain ⟨k'', x', e', hk'⟩ := h3 (j + 1) w (by simpa using hw)
        exact ⟨k'', x', by simpa using e', hk'⟩

/-- sorted(d) of a dict -/
theorem L_sorted {x : AV} {ks srt : List Str} {xs : List AV} {Q : AV → St → Prop} (ok : Ok g C n) (hx : dctOf σ x = some (ks, xs)) (hz : ks.length < 64) (hs : ∀ ss : List Str, ss.Perm ks → sortedS ss = true → ss = srt) (h : Q (.f (.lst (srt.map .str))) σ) :
    AWh g C X (VR g.prog g.w) [x] (fun vs => call (.builtin "sorted") vs) Q σ := by
  intro Y Z W hh tk r vs hv Qc Ec q e
  obtain ⟨v, rfl, h1⟩ := vrs1 hv
  obtain ⟨mF, kd, Cs, r⟩ := r
  obtain ⟨a, us, rfl, hsy, hd, hl, hr⟩ := r.dict hx h1
  obtain ⟨ep, hat⟩ := hd.dictAt
  have ez : (ks.zip us).length = ks.length := by rw [List.length_zip]; omega
  refine kdu_sorted (s := g.mk' hh tk) (kdl_dict (knd := PySem.strKind g.prog g.w) (kvs := ks.zip us) (ep := ep) hsy) ok.hh r.fr r.nw hat (by rw [ez, sizeLine_eq]; omega) fun D h' tk' vs F' N' hlt hlen hP => ?_
  have hS : PyProof.Rows.StrsAre vs ks := strs_of hlen hl hP
  have hlen' : vs.length = ks.length := by rw [hlen, ez]
  have r' := r.consY F' N' fun p hp => Nat.ne_of_lt (hlt p hp)
  have ho := r'.headY.1
  refine wpAny_call_entry PyProof.Rows.slot_list_sort ⟨_, ho, rfl⟩ PyProof.Rows.entry_list_sort (list_sort_treeK (n := 0) (vs := vs) PyProof.Rows.strKind_oneLt ho hS.keysOf (fun v₁ v₂ rest e => keyKind_strs (by rw [← e]; exact hS)) (by omega) fun st' hp hso => ⟨.none, rfl, ?_⟩) (PyProof.Rows.args_list_sort _)
  obtain ⟨ss', a1, a2, a3⟩ := sorted_out_str hS hp hso
  have hss : ss' = srt := hs ss' a2 a3
  subst hss
  obtain ⟨c, hc⟩ := sortedHeap_at (vs := vs) (out := (arrOf st').map (·.2)) ho
  generalize hH : sortedHeap h' D vs ((arrOf st').map (·.2)) = H at hc
  have hx : Heap.ExtBut D h' H := by
    intro b o hb hq
    rw [← hH, sortedHeap_old hb (Heap.lt_size hq)]
    exact hq
  have hqq : Qc (.ref D) (g.mk' H tk') := by
    have r₂ := r'.turnYX hx hc
    obtain ⟨r₃, f₃⟩ := r₂.moveZ
    exact q _ σ _ _ W _ tk' h ⟨_, _, _, r₃⟩ f₃ (PLe.refl _) (.f (.lst (.head _) ⟨c, rfl⟩ (strs_vfs a1)))
  exact hqq

theorem L_listF {x : AV} {ys : List FV} {Q : AV → St → Prop} (hx : lstOf σ x = some (ys.map .f)) (hz : ys.length ≤ 2 ^ 20) (h : Q (.f (.lst ys)) σ) : AWh g C X (VR g.prog g.w) [x] (fun vs => call (.type "list") vs) Q σ := by
  intro Y Z W hh tk r vs hv Qc Ec q e
  obtain ⟨v, rfl, h1⟩ := vrs1 hv
  obtain ⟨mF, kd, Cs, r⟩ := r
  obtain ⟨a, vs, o, rfl, h2, ⟨m, rfl⟩, h4⟩ := r.list hx h1
  have hl := h4.len
  rw [List.length_map] at hl
  refine call_list_seq (s := g.mk' hh tk) a (.inl rfl) h2 rfl rfl (fun h' c' hk hD => ?_) (by rw [List.size_toArray, ← hl, sizeLine_eq]; omega)
  obtain ⟨r', f'⟩ := r.newZ (o := listOf vs.toArray c') hk (push_new hh) hD
  exact q _ _ _ _ W _ tk h ⟨mF, kd, Cs, r'⟩ f' (PLe.refl _) (.f (.lst (.head _) ⟨c', rfl⟩ (h4.vfs.mono f')))
theorem L_listM {x : AV} {xs : List AV} {Q : AV → St → Prop} (hx : lstOf σ x = some xs) (hz : xs.length ≤ 2 ^ 20) (h : Q (.ref σ.heap.length) ⟨σ.heap ++ [.lst xs], σ.loc⟩) : AWh g C X (VR g.prog g.w) [x] (fun vs => call (.type "list") vs) Q σ := by
  intro Y Z W hh tk r vs hv Qc Ec q e
  obtain ⟨v, rfl, h1⟩ := vrs1 hv
  obtain ⟨mF, kd, Cs, r⟩ := r
  obtain ⟨a, vs, o, rfl, h2, ⟨m, rfl⟩, h4⟩ := r.list hx h1
  have hl := h4.len
  have hW : σ.heap.length = W.length := r.or.len
  refine call_list_seq (s := g.mk' hh tk) a (.inl rfl) h2 rfl rfl (fun h' c' hk hD => ?_) (by rw [List.size_toArray, ← hl, sizeLine_eq]; omega)
  have p : PLe (adr W) (adr (W ++ [⟨hh.objs.size, [(hh.objs.size, listOf vs.toArray c')]⟩])) := by rw [adr_append]; exact ⟨_, rfl⟩
  have r' := r.newW (o := listOf vs.toArray c') (x := .lst xs) hk (push_new hh) hD (.lst ⟨c', rfl⟩ (h4.mono (FLe.refl Z) fun i b q => PLe.get ⟨_, rfl⟩ q))
  refine q _ _ _ Z _ _ tk h ⟨mF, kd, Cs, r'⟩ (FLe.refl Z) p (.ref ?_)
  rw [adr_append, hW]
  unfold adr
  rw [List.getElem?_append_right (by rw [List.length_map]; exact Nat.le_refl _), List.length_map, Nat.sub_self]
  rfl
theorem L_listR {i j : Int} {Q : AV → St → Prop} (ok : Ok g C n) (h1 : i.natAbs < 2 ^ 20) (h2 : j.natAbs < 2 ^ 20) (h : Q (.f (.lst (rangeL i j))) σ) : AWh g C X (VR g.prog g.w) [.f (.rng i j)] (fun vs => call (.type "list") vs) Q σ := by
  intro Y Z W hh tk r vs hv Qc Ec q e
  obtain ⟨v, rfl, hx⟩ := vrs1 hv
  obtain ⟨mF, kd, Cs, r⟩ := r
  cases hx with | f hx => cases hx with | rng hz =>
  refine call_list_range (s := g.mk' hh tk) (n := (j - i).toNat) ok.hh (r.mem_z hz) (range_small h1 h2) (PyProof.Rows.rangeSize_nat i j) (by omega) fun h' tk' acc' c' hk hD hacc => ?_
  have hD' : h'.get? hh.objs.size = some (listOf acc'.toList.toArray c') := by rw [Array.toArray_toList]; exact hD
  obtain ⟨r', f'⟩ := r.newZ (o := listOf acc'.toList.toArray c') hk (push_new hh) hD'
  refine q _ _ _ _ W _ _ h ⟨mF, kd, Cs, r'⟩ f' (PLe.refl _) (.f (.lst (.head _) ⟨c', rfl⟩ ?_))
  have key : ∀ (l : List Value) (k : Nat), (∀ (m : Nat) (v : Value), l[m]? = some v → ∃ t, v = Value.int (i + ((k + m : Nat) : Int)) t) → VFs g.prog g.w (⟨(hh.objs.size, listOf acc'.toList.toArray c') :: Z.z, Z.d⟩ : Fz) ((List.range' k l.length).map fun (m : Nat) => FV.int (i + (m : Int))) l := by
    intro l
    induction l with
    | nil => intro k _; exact .nil
    | cons v l ih =>
      intro k hl
      obtain ⟨t, rfl⟩ := hl 0 v rfl
      rw [List.length_cons, List.range'_succ, List.map_cons]
      exact .cons .int (ih (k + 1) fun m v hm => by
        obtain ⟨t, e⟩ := hl (m + 1) v (by simpa using hm)
        exact ⟨t, by rw [e, show k + (m + 1) = k + 1 + m from by omega]⟩)
  have e1 : acc'.toList.length = (j - i).toNat := by rw [Array.length_toList]; exact hacc.1
  have := key acc'.toList 0 fun m v hm => by
    obtain ⟨t, e⟩ := hacc.2 m v (by rw [← Array.getElem?_toList]; exact hm)
    exact ⟨t, by rw [e, Nat.zero_add, Int.mul_one]⟩
  rw [e1] at this
  unfold rangeL
  rw [List.range_eq_range']
  exact this

theorem M_str {x : Str} {name : Str} {id : String} (slot : PySem.Slot "str" name id) (hty : typeOf (.builtin id) = pure (.type "method_descriptor")) : Meth g C σ (.str x) name (.builtin id) := by
  intro Y Z W h tk r v hv pl Qc Ec q
  obtain ⟨t, rfl⟩ := vr_str hv
  exact getMethod_builtin (s := g.mk' h tk) (typeIs_str _ _ _) PySem.F.plainAttrs_str slot hty (fun a e => by cases e) (q tk)
end


theorem cellsFrom_nd : ∀ (names : List (Str × NameKind)) (n : Nat) (acc : List (Str × Addr)), (acc.map (·.2)).Nodup → (∀ q ∈ acc, @LT.lt Nat _ q.2 n) → ((cellsFrom n names acc).map (·.2)).Nodup
  | [], n, acc, h, _ => h
  | (name, kind) :: r, n, acc, h, hl => by
    unfold cellsFrom
    split
    · refine cellsFrom_nd r (n + 1) _ ?_ ?_
      · rw [List.map_cons, List.nodup_cons]
        refine ⟨fun hm => ?_, h⟩
        obtain ⟨q, hq, e⟩ := List.mem_map.mp hm
        have := hl q hq
        rw [show q.2 = n from e] at this
        exact Nat.lt_irrefl _ this
      · intro q hq
        rcases List.mem_cons.mp hq with rfl | hq
        · exact Nat.lt_succ_self n
        · exact Nat.lt_succ_of_lt (hl q hq)
    · exact cellsFrom_nd r n acc h hl
theorem cellsFrom_ge : ∀ (names : List (Str × NameKind)) (n m : Nat) (acc : List (Str × Addr)), m ≤ n → (∀ q ∈ acc, @LE.le Nat _ m q.2) → ∀ q ∈ cellsFrom n names acc, @LE.le Nat _ m q.2
  | [], n, m, acc, _, h => h
  | (name, kind) :: r, n, m, acc, hn, h => by
    unfold cellsFrom
    split
    · refine cellsFrom_ge r (n + 1) m _ (Nat.le_succ_of_le hn) ?_
      intro q hq
      rcases List.mem_cons.mp hq with rfl | hq
      · exact hn
      · exact h q hq
    · exact cellsFrom_ge r n m acc hn h
theorem cells_adr {cm : Str → Option Value} {cs : List (Str × Addr)} {cells : Led} (h : CellsAre cm cs cells) : cells.map (·.1) = cs.map (·.2) := by
  induction h with
  | nil => rfl
  | cons _ _ ih => exact congrArg (_ :: ·) ih

theorem bindC_notin {k : Str → Option NameKind} {x : Str} {ps : List Str} {vs : List Value} {m : Str → Option Value} (h : x ∉ ps) : bindC k (ps.zip vs) m x = m x := by
  induction ps generalizing vs m with
  | nil => rfl
  | cons p ps ih =>
    cases vs with
    | nil => rfl
    | cons v vs =>
      rw [List.mem_cons, not_or] at h
      show bindC k (ps.zip vs) _ x = _
      rw [ih h.2]
      split
      · rfl
      · exact if_neg h.1
theorem bindL_notin {k : Str → Option NameKind} {x : Str} {ps : List Str} {vs : List Value} {m : Str → Option Value} (h : x ∉ ps) : bindL k (ps.zip vs) m x = m x := by
  induction ps generalizing vs m with
  | nil => rfl
  | cons p ps ih =>
    cases vs with
    | nil => rfl
    | cons v vs =>
      rw [List.mem_cons, not_or] at h
      show bindL k (ps.zip vs) _ x = _
      rw [ih h.2]
      split
      · exact if_neg h.1
      · rfl
theorem ov_bindC {g : Gl} {Z : Fz} {φ : List Addr} {k : Str → Option NameKind} {x : Str} (hk : k x ≠ some .local) {ps : List Str} {xs : List AV} {vs : List Value} {m : Str → Option Value} (hr : VRs g.prog g.w Z φ xs vs) (nd : ps.Nodup) : OV g Z φ ((ps.zip xs).lookup x) (bindC k (ps.zip vs) m x) := by
  induction hr generalizing ps m with
  | nil => cases ps <;> trivial
  | @cons y _ v _ h _ ih =>
    cases ps with
    | nil => trivial
    | cons p ps =>
      rw [List.nodup_cons] at nd
      rw [List.zip_cons_cons, List.zip_cons_cons, List.lookup_cons]
      show OV g Z φ _ (bindC k (ps.zip _) _ x)
      by_cases e : x = p
      · subst e
        rw [beq_self_eq_true, bindC_notin nd.1, if_neg hk]
        exact .mk (if_pos rfl) h
      · rw [beq_eq_false_iff_ne.mpr e]
        exact ih nd.2
theorem ov_bindL {g : Gl} {Z : Fz} {φ : List Addr} {k : Str → Option NameKind} {x : Str} (hk : k x = some .local) {ps : List Str} {xs : List AV} {vs : List Value} {m : Str → Option Value} (hr : VRs g.prog g.w Z φ xs vs) (nd : ps.Nodup) : OV g Z φ ((ps.zip xs).lookup x) (bindL k (ps.zip vs) m x) := by
  induction hr generalizing ps m with
  | nil => cases ps <;> trivial
  | @cons y _ v _ h _ ih =>
    cases ps with
    | nil => trivial
    | cons p ps =>
      rw [List.nodup_cons] at nd
      rw [List.zip_cons_cons, List.zip_cons_cons, List.lookup_cons]
      show OV g Z φ _ (bindL k (ps.zip _) _ x)
      by_cases e : x = p
      · subst e
        rw [beq_self_eq_true, bindL_notin nd.1, if_pos hk]
        exact .mk (if_pos rfl) h
      · rw [beq_eq_false_iff_ne.mpr e]
        exact ih nd.2
noncomputable def slotsC (scope : Scope) (os : List Str) (L : Addr) : List Slot := (cellsFrom (L + 1) scope.names []).map (fun q => .c q.1 q.2) ++ os.map .l
noncomputable def locC (scope : Scope) (os ps : List Str) (xs : List AV) : List (Option AV) := (cellsFrom 0 scope.names []).map (fun q => (ps.zip xs).lookup q.1) ++ os.map fun x => (ps.zip xs).lookup x

section
variable {g : Gl} {C : Cx} {X : XC} {σ : St} {n n' : Nat}
  {name qual : Str} {params : Arguments} {body : List Stmt} {scope : Scope} {dV kV doc pm cdv ct : Value} {an : Option Addr} {f : Addr}

theorem sr_cells {Z : Fz} {φ : List Addr} {m cm : Str → Option Value} {ps : List Str} {xs : List AV} {os : List Str} (h2 : ∀ x ∈ os, OV g Z φ ((ps.zip xs).lookup x) (m x)) {cs : List (Str × Addr)} {cells : Led} (h : CellsAre cm cs cells) (h1 : ∀ q ∈ cs, OV g Z φ ((ps.zip xs).lookup q.1) (cm q.1)) :
    SR g Z φ m (cs.map (fun q => .c q.1 q.2) ++ os.map .l) (cs.map (fun q => (ps.zip xs).lookup q.1) ++ os.map fun x => (ps.zip xs).lookup x) cells := by
  induction h with
  | nil => exact sr_none os h2
  | cons hd _ ih => exact .c hd (h1 _ (.head _)) (ih fun q hq => h1 q (.tail _ hq))

theorem cells_kind {names : List (Str × NameKind)} (hnd : ∀ q ∈ names, names.lookup q.1 = some q.2) : ∀ (l : List (Str × NameKind)) (n : Nat) (acc : List (Str × Addr)), (∀ q ∈ l, q ∈ names) → (∀ q ∈ acc, names.lookup q.1 = some .cell) → ∀ q ∈ cellsFrom n l acc, names.lookup q.1 = some .cell
  | [], _, acc, _, h => h
  | (x, kd) :: r, n, acc, hl, h => by
    unfold cellsFrom
    split
    · rename_i hc
      refine cells_kind hnd r (n + 1) _ (fun q hq => hl q (.tail _ hq)) ?_
      intro q hq
      rcases List.mem_cons.mp hq with rfl | hq
      · have e : kd = .cell := by simpa using hc
        subst e
        exact hnd _ (hl _ (.head _))
      · exact h q hq
    · exact cells_kind hnd r n acc (fun q hq => hl q (.tail _ hq)) h

/-- the words of a def with cells -/
structure SigC (K : Frag) (fd : FuncData) (ps os : List Str) (ds : List Value) (dx : List AV) : Prop where
  bind : ∀ s (vs : List Value), K.In s.heap → vs.length + ds.length = ps.length → BindsTo s fd ⟨vs, []⟩ (ps.zip (vs ++ ds))
  dv : ∀ (g : Gl) Z φ, VRs g.prog g.w Z φ dx ds
  pk : (ps.all fun x => fd.scope.names.lookup x == some .local || fd.scope.names.lookup x == some .cell) = true
  pn : ps.Nodup
  ok : (os.all fun x => fd.scope.names.lookup x == some .local) = true
  on : os.Nodup
  nn : (fd.scope.names.all fun q => fd.scope.names.lookup q.1 == some q.2) = true
  cn : ((cellsFrom 0 fd.scope.names []).map (·.1)).Nodup

theorem slotsC_facts {K : Frag} {fd : FuncData} {ps os : List Str} {ds : List Value} {dx : List AV} (S : SigC K fd ps os ds dx) (L : Addr) {env : Env} (hs : env.scope = fd.scope) (hc : env.cells = cellsFrom (L + 1) fd.scope.names []) :
    (∀ x, .l x ∈ slotsC fd.scope os L → env.kindOf x = some .local) ∧ (∀ x a, .c x a ∈ slotsC fd.scope os L → env.kindOf x = some .cell ∧ env.cells.lookup x = some a) ∧ ((slotsC fd.scope os L).map (·.nm)).Nodup := by
  have hnn : ∀ q ∈ fd.scope.names, fd.scope.names.lookup q.1 = some q.2 := fun q hq => beq_iff_eq.mp (List.all_eq_true.mp S.nn q hq)
  have hos : ∀ x ∈ os, fd.scope.names.lookup x = some .local := fun x hx => beq_iff_eq.mp (List.all_eq_true.mp S.ok x hx)
  have hck : ∀ q ∈ cellsFrom (L + 1) fd.scope.names [], fd.scope.names.lookup q.1 = some .cell := cells_kind hnn _ _ _ (fun _ h => h) (fun _ h => nomatch h)
  have hnames : (cellsFrom (L + 1) fd.scope.names []).map (·.1) = (cellsFrom 0 fd.scope.names []).map (·.1) := cellsFrom_names fd.scope.names (L + 1) 0 [] [] rfl
  have hnd : ((cellsFrom (L + 1) fd.scope.names []).map (·.1)).Nodup := by rw [hnames]; exact S.cn
  have hko : ∀ x, env.kindOf x = fd.scope.names.lookup x := fun x => by unfold Env.kindOf; rw [hs]
  refine ⟨fun x hx => ?_, fun x a hx => ?_, ?_⟩
  · rcases List.mem_append.mp hx with hx | hx
    · obtain ⟨q, _, e⟩ := List.mem_map.mp hx; cases e
    · obtain ⟨y, hy, e⟩ := List.mem_map.mp hx; cases e; rw [hko]; exact hos _ hy
  · rcases List.mem_append.mp hx with hx | hx
    · obtain ⟨q, hq, e⟩ := List.mem_map.mp hx
      cases e
      rw [hko, hc]
      exact ⟨hck q hq, lookup_of_mem_nodup hnd hq⟩
    · obtain ⟨y, hy, e⟩ := List.mem_map.mp hx; cases e
  · unfold slotsC
    rw [List.map_append, List.map_map, List.map_map, List.nodup_append]
    refine ⟨hnd, ?_, fun x hx y hy e => ?_⟩
    · have : ((·.nm) ∘ Slot.l) = id := rfl
      rw [this, List.map_id]; exact S.on
    · obtain ⟨q, hq, rfl⟩ := List.mem_map.mp hx
      obtain ⟨z, hz, rfl⟩ := List.mem_map.mp hy
      have e1 := hck q hq
      have e2 := hos z hz
      rw [show q.1 = z from e] at e1
      rw [e1] at e2; cases e2

/-- a call of a def with cells: what the callee finds -/
theorem fn_cells (ok : Ok g C n) {A' : Around} (hA : A'.frames = some (C.fenv :: C.outer)) (hh : A'.handled = none) (rd : A'.depth + 1 + 2 * n' < recursionLimit) (ru : A'.units + 3 + 8 * n' < cLine)
    (F : Fn g.K f name qual params body scope dV kV doc pm an cdv ct) {xs : List AV} {ps os : List Str} {ds : List Value} {dx : List AV} (S : SigC g.K (fnOf name qual params body scope dV kV doc pm an cdv ct) ps os ds dx) (hl : xs.length + dx.length = ps.length) (pl : Bool)
    {Y : Led} {Z : Fz} {W : List Ent} {h : Heap} {tk : Nat} {vs : List Value} {Rs : Result → Shared → Prop} {mF : Str → Option Value} {kd Cs : Led} (r : RelM g C Y Z W σ h mF kd Cs) (hv : VRs g.prog g.w Z (adr W) xs vs)
    (k : ∀ gg L' h₁ tk' cells, Ok g (calleeCx A' C (envOfC qual scope L' f cdv) gg L' (slotsC scope os L') pl) n' → Fr C.h₀ C.L gg mF → Fr gg L' h₁ (bindL (envOfC qual scope L' f cdv).kindOf (ps.zip (vs ++ ds)) fun _ => none) → News gg L' h₁ (cells ++ ledger kd Cs Y Z W) → ((cells ++ ledger kd Cs Y Z W).map (·.1)).Nodup →
      SR g Z (adr W) (bindL (envOfC qual scope L' f cdv).kindOf (ps.zip (vs ++ ds)) fun _ => none) (slotsC scope os L') (locC scope os ps (xs ++ dx)) cells →
      wpAny (model g.prog g.w) (A'.deeper (envOfC qual scope L' f cdv)) (execs body (envOfC qual scope L' f cdv))
        (fun fl s' => LeaveK C.h₀ C.L mF gg Rs (match fl with | .ret v => v | _ => .none) s')
        (fun e s' => wpAny (model g.prog g.w) (A'.deeper (envOfC qual scope L' f cdv)) (leaving (envOfC qual scope L' f cdv) e) (fun _ s'' => Rs (.error e) s'') (fun e' s'' => Rs (.error e') s'') s')
        (g.mk' h₁ tk')) :
    codeAny (model g.prog g.w) A' (.call (.ref f) ⟨vs, []⟩) Rs (g.mk' h tk) := by
  obtain ⟨oc, od, osl, ho⟩ := F.ho
  have hX : g.K.In h := ok.X.keeps r.fr.keep
  have hdl := (S.dv g Z (adr W)).len
  have hbind := S.bind (g.mk' h tk) vs hX (by rw [← hv.len, ← hdl]; exact hl)
  have hpk : ∀ x ∈ ps, scope.names.lookup x = some .local ∨ scope.names.lookup x = some .cell := fun x hx => by
    have := List.all_eq_true.mp S.pk x hx
    rcases Bool.or_eq_true_iff.mp this with q | q
    · exact .inl (by simpa using q)
    · exact .inr (by simpa using q)
  have hVR : VRs g.prog g.w Z (adr W) (xs ++ dx) (vs ++ ds) := hv.append (S.dv g _ _)
  refine callX_cells (s := g.mk' h tk) (m := mF) (news := ledger kd Cs Y Z W) ok.B r.fr r.nw ok.T.nolimit hA ok.fL ok.fk (hX _ _ ho) rfl (codeRec_of hX F.hcd) (by omega) hbind (kindsX ?_) S.cn (fun gg L' h₁ tk' cells FG F' N' Y' BG st lt => ?_) F.hco F.hgen F.hk
  · refine List.all_eq_true.mpr fun q hq => ?_
    rcases hpk q.1 (List.of_mem_zip hq).1 with e | e
    · rw [e]; rfl
    · rw [e]; rfl
  · obtain ⟨f1, f2, f3⟩ := slotsC_facts S L' (env := envOfC qual scope L' f cdv) rfl rfl
    have hnn : ∀ q ∈ scope.names, scope.names.lookup q.1 = some q.2 := fun q hq => beq_iff_eq.mp (List.all_eq_true.mp S.nn q hq)
    have hck : ∀ q ∈ cellsFrom (L' + 1) scope.names [], scope.names.lookup q.1 = some .cell := cells_kind hnn _ _ _ (fun _ h => h) (fun _ h => nomatch h)
    have ok' : Ok g (calleeCx A' C (envOfC qual scope L' f cdv) gg L' (slotsC scope os L') pl) n' :=
      callee_ok ok hA hh rd ru BG st rfl F.hk rfl rfl rfl f1 f2 f3
    have had := cells_adr Y'
    refine k gg L' h₁ tk' cells ok' FG F' N' ?_ ?_
    · rw [List.map_append, List.nodup_append]
      refine ⟨by rw [had]; exact cellsFrom_nd _ _ _ .nil (fun _ h => nomatch h), r.nd, fun x hx y hy e => ?_⟩
      rw [had] at hx
      obtain ⟨q, hq, rfl⟩ := List.mem_map.mp hx
      obtain ⟨p, hp, rfl⟩ := List.mem_map.mp hy
      have a1 := cellsFrom_ge scope.names (L' + 1) (L' + 1) [] (Nat.le_refl _) (fun _ h => nomatch h) q hq
      have a2 := lt p hp
      rw [e] at a1
      exact Nat.lt_irrefl _ (Nat.lt_trans a2 (Nat.lt_of_succ_le a1))
    · have hloc : locC scope os ps (xs ++ dx) = (cellsFrom (L' + 1) scope.names []).map (fun q => (ps.zip (xs ++ dx)).lookup q.1) ++ os.map fun x => (ps.zip (xs ++ dx)).lookup x := by
        unfold locC
        congr 1
        have := cellsFrom_names scope.names 0 (L' + 1) [] [] rfl
        calc (cellsFrom 0 scope.names []).map (fun q => (ps.zip (xs ++ dx)).lookup q.1) = ((cellsFrom 0 scope.names []).map (·.1)).map (fun x => (ps.zip (xs ++ dx)).lookup x) := by rw [List.map_map]; rfl
          _ = ((cellsFrom (L' + 1) scope.names []).map (·.1)).map (fun x => (ps.zip (xs ++ dx)).lookup x) := by rw [this]
          _ = _ := by rw [List.map_map]; rfl
      rw [hloc]
      refine sr_cells (fun x hx => ov_bindL ?_ hVR S.pn) Y' fun q hq => ov_bindC ?_ hVR S.pn
      · exact beq_iff_eq.mp (List.all_eq_true.mp S.ok x hx)
      · show scope.names.lookup q.1 ≠ some .local
        rw [hck q hq]; intro e; cases e

theorem call_allC (ok : Ok g C (n + 1)) (F : Fn g.K f name qual params body scope dV kV doc pm an cdv ct) {xs : List AV} {ps os : List Str} {ds : List Value} {dx : List AV} (S : SigC g.K (fnOf name qual params body scope dV kV doc pm an cdv ct) ps os ds dx) (hl : xs.length + dx.length = ps.length)
    {Q : AV → St → Prop}
    (hb : ∀ C', Ok g C' n → C'.env = envOfC qual scope C'.L f cdv → C'.mode = .fn → C'.slots = slotsC scope os C'.L → C'.pl = true → AX g C' XC.no (execs body C'.env) (fun fl σ' => ∃ v, retOf fl = some v ∧ Q v ⟨σ'.heap, σ.loc⟩) ⟨σ.heap, locC scope os ps (xs ++ dx)⟩) :
    AWh g C X (VR g.prog g.w) xs (fun vs => call (.ref f) vs) Q σ := by
  intro Y Z W h tk r vs hv Qc Ec q e
  have := ok.rd
  have := ok.ru
  obtain ⟨mF, kd, Cs, r⟩ := r
  refine wpAny_call (fn_cells (n' := n) ok ok.fr ok.hh (by omega) (by omega) F S hl true r hv fun gg L' h₁ tk' cells ok' FG F' N' nd sr => ?_)
  have pm := ledger_all (kd := kd) (Cs := Cs) (Y := Y) (Z := Z) (W := W) cells
  have r' : Rel g (calleeCx C.A C (envOfC qual scope L' f cdv) gg L' (slotsC scope os L') true) (kd ++ (Cs ++ Y)) Z W ⟨σ.heap, locC scope os ps (xs ++ dx)⟩ h₁ :=
    ⟨_, [], cells, ⟨F', newsPerm N' pm, (pm.map _).nodup_iff.mpr nd, ⟨rfl, sr⟩, r.or⟩⟩
  refine hb _ ok' rfl rfl rfl rfl _ Z W h₁ _ r' _ _ (fun b σ' v Z' W' h' tk' hp r₂ f₂ c₂ x₂ => ?_) (fun e s' z => z.elim)
  obtain ⟨u, hu, hp⟩ := hp
  obtain ⟨mF₂, kd₂, Cs₂, r₂⟩ := r₂
  have lo₂ := r₂.lo
  obtain ⟨rfl, _⟩ := lo₂
  have pl : PLe (adr W) (adr W') := c₂ rfl
  have pm₂ : (ledger [] Cs₂ (kd ++ (Cs ++ Y)) Z' W').Perm (Cs₂ ++ ledger kd Cs Y Z' W') := ledger_all Cs₂
  have N₂ : News gg L' h' (ledger kd Cs Y Z' W') := fun q hq => newsPerm r₂.nw pm₂.symm q (List.mem_append_right _ hq)
  have D₂ : ((ledger kd Cs Y Z' W').map (·.1)).Nodup := by
    have := (pm₂.map (·.1)).nodup_iff.mp r₂.nd
    rw [List.map_append] at this
    exact (List.nodup_append.mp this).2.1
  have fin : ∀ vv, VR g.prog g.w Z' (adr W') u vv → LeaveK C.h₀ C.L mF gg (fun r s' => match r with | .ok (.ret v) => Qc v s' | .ok _ => False | .error e => Ec e s') vv (g.mk' h' tk') := fun vv hvv =>
    leaveK_ (s' := g.mk' h' tk') r₂.fr N₂ fun F₃ N₃ => q u ⟨σ'.heap, σ.loc⟩ vv Z' W' h' tk' hp
      ⟨mF, kd, Cs, ⟨F₃, N₃, D₂, r.lo.mono f₂ (fun _ _ e => pl.get e), r₂.or⟩⟩ f₂ pl hvv
  cases x₂ with
  | next => cases hu; exact fin _ (.f .none)
  | ret hv₂ => cases hu; exact fin _ hv₂
  | brk => cases hu
  | cont => cases hu
theorem SR.any {Z : Fz} {φ φ' : List Addr} {m : Str → Option Value} {ss : List Slot} {us : List (Option AV)} {Cs : Led} (h : SR g Z φ m ss us Cs) (k : ∀ u ∈ us, ∀ i, u ≠ some (.ref i)) : SR g Z φ' m ss us Cs :=
  h.map' (fun u hu v a => by
    cases u with
    | none => trivial
    | some x => cases x with
      | ref i => exact absurd rfl (k _ hu i)
      | f x => obtain ⟨_, rfl, a⟩ := a.get; exact VR.f a.fv) fun _ _ => rfl
theorem locC_frozen {os ps : List Str} {zs : List FV} : ∀ u ∈ locC scope os ps (zs.map .f), ∀ i, u ≠ some (.ref i) := by
  have key : ∀ x (ps : List Str) (zs : List FV), ∀ i, (ps.zip (zs.map AV.f)).lookup x ≠ some (.ref i) := by
    intro x ps
    induction ps with
    | nil => intro zs i e; cases e
    | cons p ps ih =>
      intro zs i e
      cases zs with
      | nil => cases e
      | cons z zs =>
        rw [List.map_cons, List.zip_cons_cons, List.lookup_cons] at e
        split at e
        · cases e
        · exact ih zs i e
  intro u hu i
  rcases List.mem_append.mp hu with hu | hu
  · obtain ⟨q, _, rfl⟩ := List.mem_map.mp hu; exact key _ _ _ i
  · obtain ⟨q, _, rfl⟩ := List.mem_map.mp hu; exact key _ _ _ i

theorem call_noneC (ok : Ok g C (n + 1)) (F : Fn g.K f name qual params body scope dV kV doc pm an cdv ct) {xs dx : List FV} {ps os : List Str} {ds : List Value} (S : SigC g.K (fnOf name qual params body scope dV kV doc pm an cdv ct) ps os ds (dx.map .f)) (hl : xs.length + dx.length = ps.length)
    {P : FV → Prop}
    (hb : ∀ C', Ok g C' n → C'.env = envOfC qual scope C'.L f cdv → C'.mode = .fn → C'.slots = slotsC scope os C'.L → C'.pl = false → AX g C' XC.no (execs body C'.env) (fun fl σ' => ∃ v, retOf fl = some (.f v) ∧ P v) ⟨[], locC scope os ps (xs.map .f ++ dx.map .f)⟩)
    {Q : AV → St → Prop} (hq : ∀ v, P v → Q (.f v) σ) : AWh g C X (VR g.prog g.w) (xs.map .f) (fun vs => call (.ref f) vs) Q σ := by
  intro Y Z W h tk r vs hv Qc Ec q e
  have := ok.rd
  have := ok.ru
  obtain ⟨mF, kd, Cs, r⟩ := r
  refine wpAny_call (fn_cells (n' := n) ok ok.fr ok.hh (by omega) (by omega) F S (by rw [List.length_map, List.length_map]; exact hl) false r hv fun gg L' h₁ tk' cells ok' FG F' N' nd sr => ?_)
  have pm := ledger_none (kd := kd) (Cs := Cs) (Y := Y) (Z := Z) (W := W) (W' := []) cells
  simp only [led, List.flatMap_nil, List.append_nil] at pm
  have sr' : SR g Z (adr []) (bindL (envOfC qual scope L' f cdv).kindOf (ps.zip (vs ++ ds)) fun _ => none) (slotsC scope os L') (locC scope os ps (xs.map .f ++ dx.map .f)) cells := by
    rw [← List.map_append] at sr ⊢
    exact sr.any locC_frozen
  have r' : Rel g (calleeCx C.A C (envOfC qual scope L' f cdv) gg L' (slotsC scope os L') false) (kd ++ (Cs ++ (Y ++ led W))) Z [] ⟨[], locC scope os ps (xs.map .f ++ dx.map .f)⟩ h₁ :=
    ⟨_, [], cells, ⟨F', newsPerm N' pm, (pm.map _).nodup_iff.mpr nd, ⟨rfl, sr'⟩, .nil⟩⟩
  refine hb _ ok' rfl rfl rfl rfl _ Z [] h₁ _ r' _ _ (fun b σ' v Z' W' h' tk' hp r₂ f₂ c₂ x₂ => ?_) (fun e s' z => z.elim)
  obtain ⟨u, hu, hp⟩ := hp
  obtain ⟨mF₂, kd₂, Cs₂, r₂⟩ := r₂
  have lo₂ := r₂.lo
  obtain ⟨rfl, _⟩ := lo₂
  have pm₂ : (ledger [] Cs₂ (kd ++ (Cs ++ (Y ++ led W))) Z' W').Perm (Cs₂ ++ (ledger kd Cs Y Z' W ++ led W')) := ledger_none Cs₂
  have N₂ : News gg L' h' (ledger kd Cs Y Z' W) := fun q hq => newsPerm r₂.nw pm₂.symm q (List.mem_append_right _ (List.mem_append_left _ hq))
  have D₂ : ((ledger kd Cs Y Z' W).map (·.1)).Nodup := by
    have := (pm₂.map (·.1)).nodup_iff.mp r₂.nd
    rw [List.map_append, List.map_append] at this
    exact (List.nodup_append.mp (List.nodup_append.mp this).2.1).1
  have fin : ∀ vv, VF g.prog g.w Z' u vv → LeaveK C.h₀ C.L mF gg (fun r s' => match r with | .ok (.ret v) => Qc v s' | .ok _ => False | .error e => Ec e s') vv (g.mk' h' tk') := fun vv hvv =>
    leaveK_ (s' := g.mk' h' tk') r₂.fr N₂ fun F₃ N₃ => q (.f u) σ vv Z' W h' tk' (hq u hp)
      ⟨mF, kd, Cs, ⟨F₃, N₃, D₂, r.lo.mono f₂ (fun _ _ e => e), r.or.mono f₂ (fun _ _ e => e)⟩⟩ f₂ (PLe.refl _) (.f hvv)
  cases x₂ with
  | next => cases hu; exact fin _ .none
  | ret hv₂ => cases hu; cases hv₂ with | f hv₂ => exact fin _ hv₂
  | brk => cases hu
  | cont => cases hu
end


theorem Sig.dflt {K : Frag} {fd : FuncData} {xs : List AV} (ps os : List Str) (ds : List Value) (dx : List AV) (hdv : ∀ (g : Gl) Z φ, VRs g.prog g.w Z φ dx ds) (hl : ps.length = (xs ++ dx).length) (hb : ∀ s (vs : List Value), K.In s.heap → vs.length = xs.length → BindsTo s fd ⟨vs, []⟩ (ps.zip (vs ++ ds)))
    (h1 : ((ps ++ os).all fun x => fd.scope.names.lookup x == some .local) = true) (h2 : (ps ++ os).Nodup) (h3 : (fd.scope.names.all fun x => x.2 != .cell) = true) :
    Sig K fd xs (ps.map .l ++ os.map .l) ((xs ++ dx).map some ++ os.map fun _ => none) := by
  have loc : ∀ x ∈ ps ++ os, fd.scope.names.lookup x = some .local := fun x hx => beq_iff_eq.mp (List.all_eq_true.mp h1 x hx)
  refine ⟨fun s vs hK hv => ⟨ps.zip (vs ++ ds), hb s vs hK hv, fun y hy => loc _ (List.mem_append_left _ (List.of_mem_zip hy).1), fun g Z φ hr => sr_init hl (hr.append (hdv g Z φ)) (zip_lookup (List.nodup_append.mp h2).1)⟩, fun x hx => ?_, fun x a hx => ?_, ?_, fun x hx => ?_⟩
  · rw [← List.map_append] at hx
    obtain ⟨y, hy, e⟩ := List.mem_map.mp hx
    cases e
    exact loc _ hy
  · rw [← List.map_append] at hx
    obtain ⟨y, hy, e⟩ := List.mem_map.mp hx
    cases e
  · rw [← List.map_append, List.map_map]
    have : ((·.nm) ∘ Slot.l) = id := rfl
    rw [this, List.map_id]; exact h2
  · have := List.all_eq_true.mp h3 x hx
    simpa using this

mutual
noncomputable def FV.dat : FV → PyData
  | .none => .none
  | .bool b => .bool b
  | .int i => .int i
  | .str s => .str s
  | .lst xs => .list (FV.dats xs)
  | .tup xs => .tuple (FV.dats xs)
  | _ => .none
noncomputable def FV.dats : List FV → List PyData
  | [] => []
  | x :: xs => FV.dat x :: FV.dats xs
end
mutual
noncomputable def FV.good : FV → Bool
  | .none => true
  | .bool _ => true
  | .int _ => true
  | .str s => PyData.strOk s
  | .lst xs => FV.goods xs
  | .tup xs => FV.goods xs
  | _ => false
noncomputable def FV.goods : List FV → Bool
  | [] => true
  | x :: xs => FV.good x && FV.goods xs
end
section
variable {prog : Program} {w : World}
theorem reads_of {Z : Fz} {h : Heap} (hz : ∀ q ∈ Z.z, h.get? q.1 = some q.2) {x : FV} {v : Value} (r : VF prog w Z x v) : x.good = true → ∃ as, Reads h v x.dat as :=
  VF.rec (motive_1 := fun x v _ => x.good = true → ∃ as, Reads h v x.dat as) (motive_2 := fun xs vs _ => FV.goods xs = true → ∃ as, ReadsAll h vs (FV.dats xs) as) (motive_3 := fun _ _ _ _ => True)
    (fun _ => ⟨_, .none⟩) (fun _ => ⟨_, .bool _⟩) (fun _ => ⟨_, .int _ _⟩) (fun _ => ⟨_, .str _ _⟩) (fun _ g => Bool.noConfusion g)
    (fun hm l _ ih g => by obtain ⟨n, rfl⟩ := l; obtain ⟨as, ra⟩ := ih g; exact ⟨_, .list (hz _ hm) rfl rfl ra⟩)
    (fun hm l _ ih g => by obtain ⟨n, rfl⟩ := l; obtain ⟨as, ra⟩ := ih g; exact ⟨_, .tuple (hz _ hm) rfl rfl ra⟩)
    (fun _ _ _ _ _ _ g => Bool.noConfusion g) (fun _ _ _ _ g => Bool.noConfusion g) (fun _ g => Bool.noConfusion g) (fun _ => ⟨_, .nil⟩)
    (fun _ _ ih1 ih2 g => let g := Bool.and_eq_true_iff.mp g; let ⟨_, ra⟩ := ih1 g.1; let ⟨_, rb⟩ := ih2 g.2; ⟨_, .cons ra rb⟩) trivial (fun _ _ _ _ _ => trivial) (fun _ _ _ => trivial) r
theorem lay_of (x : FV) : x.good = true → x.dat.canLay0 = true :=
  FV.rec (motive_1 := fun x => x.good = true → x.dat.canLay0 = true) (motive_2 := fun xs => FV.goods xs = true → PyData.canLayAll0 (FV.dats xs) = true)
    (fun _ => rfl) (fun _ _ => rfl) (fun _ _ => rfl) (fun _ g => g) (fun _ g => Bool.noConfusion g) (fun _ ih g => ih g) (fun _ ih g => ih g) (fun _ _ _ g => Bool.noConfusion g) (fun _ _ _ _ g => Bool.noConfusion g) (fun _ _ g => Bool.noConfusion g)
    (fun _ => rfl) (fun _ _ ih1 ih2 g => let g := Bool.and_eq_true_iff.mp g; Bool.and_eq_true_iff.mpr ⟨ih1 g.1, ih2 g.2⟩) x
end

section
variable {g : Gl} {C : Cx} {X : XC} {σ : St} {n : Nat} {Y : Led} {Z : Fz} {W : List Ent} {h h' : Heap} {mF : Str → Option Value} {kd Cs : Led} {a : Addr} {o o' : Obj}

/-- the same tree twice -/
theorem C_neD {x : FV} {Q : AV → St → Prop} (ok : Ok g C n) (hn : 8 ≤ n) (hg : x.good = true) (hd : x.dat.depth ≤ 64) (h : Q (.bool false) σ) : AWh g C X (VR g.prog g.w) [.f x, .f x] (val2 (compareOp .NotEq)) Q σ :=
  AWh.here h fun Y Z W hh tk r vs hv Qc Ec q => by
    obtain ⟨v, u, rfl, h1, h2⟩ := vrs2 hv
    obtain ⟨mF, kd, Cs, r⟩ := r
    cases h1 with | f h1 => cases h2 with | f h2 =>
    obtain ⟨as, ra⟩ := reads_of (h := hh) (fun q hq => r.mem_z hq) h1 hg
    obtain ⟨bs, rb⟩ := reads_of (h := hh) (fun q hq => r.mem_z hq) h2 hg
    have sh : PySem.SeqAt.shaped x.dat = true := by
      unfold PySem.SeqAt.shaped
      rw [lay_of x hg, decide_eq_true hd]; rfl
    have ru := ok.ru
    refine PySem.SeqAt.compareNe_shaped (s := g.mk' hh tk) ra rb sh sh (by omega) ?_
    rw [PySem.SeqAt.eqv_refl _ (lay_of x hg)]
    exact q (.bool false) hh tk (fun _ _ e => e) (.f .bool)

theorem B_muls {x y : Str} {k : Int} {Q : AV → St → Prop} (hok : MulOk x k) (hy : Txt.mul x k = y) (h : Q (.str y) σ) : AWh g C X (VR g.prog g.w) [.str x, .int k] (val2 (binaryOp .Mult)) Q σ :=
  AWh.here h fun Y Z W hh tk r vs hv Qc Ec q => by
    obtain ⟨v, u, rfl, h1, h2⟩ := vrs2 hv
    obtain ⟨t, rfl⟩ := vr_str h1
    obtain ⟨t', rfl⟩ := vr_int h2
    exact SB.mul (s := g.mk' hh tk) hok fun t'' k' => q _ hh k' (fun _ _ e => e) (by rw [hy]; exact .f .str)

inductive PrD (g : Gl) (ks : List Str) (Z : Fz) (i : Nat) (it : Addr) (o : Obj) : Prop
  | mk (d : Addr) (od : Obj) (us : List Value) (es : Array DictEntry) (ep : Nat) (h0 : (d == sysModules) = false) (h1 : (d, od) ∈ Z.z) (h2 : od.ExactDict) (h3 : od.data = .dict es ep) (h4 : KeysOf (PySem.strKind g.prog g.w) es) (h5 : Pairs (PySem.strKind g.prog g.w) es.toList (ks.zip us)) (h6 : ((ks.zip us).map (·.1)).Nodup) (h7 : ks.length = us.length)
    (h8 : o.cls = .type "dict_keyiterator") (h9 : o.data = .fields #[.ref d, .int i 0, .int (ks.zip us).length 0, .int ep 0])
theorem Itr.dict (ok : Ok g C n) (ks : List Str) (xs : List FV) : Itr g C (.f (.dct ks xs)) (ks.map .str) (PrD g ks) where
  mono f := by rintro ⟨d, od, us, es, ep, h0, h1, h2, h3, h4, h5, h6, h7, h8, h9⟩; exact ⟨d, od, us, es, ep, h0, f.z _ h1, h2, h3, h4, h5, h6, h7, h8, h9⟩
  start := by
    intro σ Y Z W h tk r v hv Q E k
    obtain ⟨mF, kd, Cs, r⟩ := r
    cases hv with | f hv => cases hv with | dct hs hz i hl hr =>
    obtain ⟨es, ep, i1, i2, i3, i4, i5⟩ := i
    exact wpAny_pyIter_dict (s := g.mk' h tk) (knd := PySem.strKind g.prog g.w) hs ⟨_, es, r.mem_z hz, i1, i2, i3, i4, i5⟩ (k _ _ _ (push_new h) (push_keeps h _) (Heap.get?_push_size h rfl) ⟨_, _, _, es, ep, hs, hz, i1, i2, i3, i4, i5, hl, rfl, rfl⟩)
  self := by
    rintro h tk it o i Z ho ⟨d, od, us, es, ep, h0, h1, h2, h3, h4, h5, h6, h7, h8, h9⟩ Q E k
    exact wpAny_pyIter_keyiter (s := g.mk' h tk) ⟨o, ho, h8, h9⟩ k
  item := by
    rintro i y hy h tk it o Z hz ho ⟨d, od, us, es, ep, h0, h1, h2, h3, h4, h5, h6, h7, h8, h9⟩ Q E k
    rw [List.getElem?_map] at hy
    cases hk : ks[i]? with
    | none => rw [hk] at hy; cases hy
    | some kk =>
      rw [hk] at hy
      cases hy
      obtain ⟨hi, _⟩ := List.getElem?_eq_some_iff.mp hk
      have hu : ∃ u, us[i]? = some u := ⟨us[i], List.getElem?_eq_getElem (by omega)⟩
      obtain ⟨u, hu⟩ := hu
      have hx : (ks.zip us)[i]? = some (kk, u) := by rw [List.getElem?_zip_eq_some]; exact ⟨hk, hu⟩
      refine wpAny_pyNext_dict_item (s := g.mk' h tk) (knd := PySem.strKind g.prog g.w) ⟨o, ho, h8, h9⟩ ⟨od, es, hz _ h1, h2, h3, h4, h5, h6⟩ hx fun key h' hkey hit hs => ?_
      obtain ⟨o', ho', h8', h9'⟩ := hit
      obtain ⟨t, rfl⟩ := Value.isStrOf_shape hkey
      exact k _ o' h' tk .str ⟨d, od, us, es, ep, h0, h1, h2, h3, h4, h5, h6, h7, h8', h9'⟩ hs ho'
  done := by
    rintro i hy h tk it o Z hz ho ⟨d, od, us, es, ep, h0, h1, h2, h3, h4, h5, h6, h7, h8, h9⟩ Q E k
    refine wpAny_pyNext_dict_end (s := g.mk' h tk) (knd := PySem.strKind g.prog g.w) ok.hh ⟨o, ho, h8, h9⟩ ⟨od, es, hz _ h1, h2, h3, h4, h5, h6⟩ ?_ fun h' hs => k h' tk hs
    rw [List.getElem?_eq_none_iff, List.length_map] at hy
    rw [List.getElem?_eq_none_iff, List.length_zip]
    omega
  own := by
    rintro h tk it o i Z elts kk pos T ho ⟨d, od, us, es, ep, h0, h1, h2, h3, h4, h5, h6, h7, h8, h9⟩ Q E k
    unfold letOwnedTupleGo
    refine wpAny_bind (wpAny_load (s := g.mk' h tk) ho ?_)
    rw [h8, h9]
    show wpAny _ _ (if (["enumerate", "zip", "dict_itemiterator", "dict_reverseitemiterator", "odict_iterator", "itertools.zip_longest", "itertools.pairwise"].contains "dict_keyiterator" && _) = true then _ else _) _ _ _
    rw [if_neg (by simp)]
    exact wpAny_pure k
end


noncomputable def frzA (n : Nat) (T : List HO) : Option AV → Option AV
  | some (.ref i) => if n ≤ i then (match toF 9 n T (.ref i) with | some v => some (.f v) | none => none) else some (.ref i)
  | u => u

section
variable {g : Gl} {C : Cx} {X : XC} {σ : St} {n : Nat} {Y : Led} {Z : Fz} {W : List Ent} {h : Heap} {mF : Str → Option Value} {kd Cs : Led}

theorem SR.frz {Z' : Fz} {φ φ₁ : List Addr} {m : Str → Option Value} {T : List HO} (f : FLe Z Z') (hp : PLe φ₁ φ) (k : ∀ b v fv, VR g.prog g.w Z φ b v → toF 9 φ₁.length T b = some fv → VF g.prog g.w Z' fv v) {ss : List Slot} {us : List (Option AV)} {Cs : Led} (h : SR g Z φ m ss us Cs) : SR g Z' φ₁ m ss (us.map (frzA φ₁.length T)) Cs :=
  h.map _ (fun u _ v => OV.of (fun x w a => by
    cases x with
    | f x => exact VR.f (a.fv.mono f)
    | ref i =>
      unfold frzA
      dsimp only
      split
      · cases e : toF 9 φ₁.length T (.ref i) with
        | none => exact trivial
        | some fv => exact VR.f (k _ _ _ a e)
      · next hi => exact VR.mono f (fun _ _ e => e) (a.shrink (φ₁ := φ₁) (Nat.lt_of_not_le hi) hp)) rfl u v) fun _ _ => rfl
theorem Loc.frz {Z' : Fz} {φ φ₁ : List Addr} {loc : List (Option AV)} {T : List HO} (f : FLe Z Z') (hp : PLe φ₁ φ) (k : ∀ b v fv, VR g.prog g.w Z φ b v → toF 9 φ₁.length T b = some fv → VF g.prog g.w Z' fv v) (l : Loc g C Z φ mF kd Cs loc) : Loc g C Z' φ₁ mF kd Cs (loc.map (frzA φ₁.length T)) := by
  unfold Loc at *
  generalize C.mode = md at l ⊢
  cases md with
  | fn => exact ⟨l.1, l.2.frz f hp k⟩
  | cp Lc m₀ =>
    obtain ⟨h1, o, m, h2, h3, h4⟩ := l
    exact ⟨h1, o, m, h2, h3, h4.frz f hp k⟩

/-- the objects from H1 on are frozen; the names keep them -/
theorem Rel.freezeL {H1 T : List HO} {loc : List (Option AV)} (r : Rel g C Y Z W ⟨H1 ++ T, loc⟩ h) (nr : ∀ o ∈ H1, NRo H1.length o) :
    ∃ Z', Rel g C Y Z' (W.take H1.length) ⟨H1, loc.map (frzA H1.length T)⟩ h ∧ FLe Z Z' := by
  obtain ⟨mF, kd, Cs, r⟩ := r
  have hlen := r.or.len
  dsimp only at hlen
  rw [List.length_append] at hlen
  have hl1 : (W.take H1.length).length = H1.length := by rw [List.length_take]; omega
  have hadr : (adr (W.take H1.length)).length = H1.length := by unfold adr; rw [List.length_map, hl1]
  have hple : PLe (adr (W.take H1.length)) (adr W) := ⟨adr (W.drop H1.length), by rw [← adr_append, List.take_append_drop]⟩
  let Z' : Fz := ⟨Z.z ++ zsOf (W.drop H1.length), Z.d ++ dsOf (W.drop H1.length)⟩
  have f : FLe Z Z' := ⟨fun q hq => List.mem_append_left _ hq, fun a es m hq => ⟨es, m, List.mem_append_left _ hq, DS.refl es⟩⟩
  obtain ⟨o1, o2⟩ := ORs.split r.or
  have pm : (ledger kd Cs Y Z' (W.take H1.length)).Perm (ledger kd Cs Y Z W) := by
    unfold ledger
    refine List.Perm.append_left kd (List.Perm.append_left Cs (List.Perm.append_left Y ?_))
    have e : led W = led (W.take H1.length) ++ led (W.drop H1.length) := by rw [← led_append, List.take_append_drop]
    rw [e]
    show ((Z.z ++ zsOf (W.drop H1.length)) ++ ((Z.d ++ dsOf (W.drop H1.length)) ++ led (W.take H1.length))).Perm _
    simp only [List.append_assoc]
    refine List.Perm.append_left Z.z ?_
    refine (List.perm_append_comm_assoc _ _ _).trans (List.Perm.append_left Z.d ?_)
    rw [← List.append_assoc]
    exact ((zs_ds _).append_right _).trans List.perm_append_comm
  have k : ∀ b v fv, VR g.prog g.w Z (adr W) b v → toF 9 H1.length T b = some fv → VF g.prog g.w Z' fv v := toF_sound f (fun q hq => List.mem_append_right _ hq) (fun q hq => List.mem_append_right _ hq) o2 (fun i e he => by
    have : W[H1.length + i]? = some e := by rw [List.getElem?_drop] at he; exact he
    exact adr_get this) 9
  refine ⟨Z', ⟨mF, kd, Cs, ⟨r.fr, newsPerm r.nw pm, (pm.map _).nodup_iff.mpr r.nd, ?_, ?_⟩⟩, f⟩
  · have := r.lo.frz f hple (T := T) (by rw [hadr]; exact k)
    rw [hadr] at this; exact this
  · exact (o1.shrink hple (by rw [hadr]; exact nr)).mono f (fun _ _ e => e)

theorem X_frz {t : Sem Flow} {Q : AF → St → Prop} {H1 T : List HO} {loc : List (Option AV)} (hpl : C.pl = false) (nr : ∀ o ∈ H1, NRo H1.length o) (h : AX g C X t Q ⟨H1, loc.map (frzA H1.length T)⟩) : AX g C X t Q ⟨H1 ++ T, loc⟩ :=
  AX.before h fun Y Z W hh r => by
    obtain ⟨Z', r', f⟩ := r.freezeL nr
    exact ⟨Z', _, r', f, fun q => by rw [hpl] at q; cases q⟩
theorem X_frzA {t : Sem Flow} {Q : AF → St → Prop} {H : List HO} {loc : List (Option AV)} (hpl : C.pl = false) (h : AX g C X t Q ⟨[], loc.map (frzA 0 H)⟩) : AX g C X t Q ⟨H, loc⟩ :=
  X_frz (H1 := []) hpl (fun _ h => nomatch h) h
end

/-- g's written part is the head's -/
noncomputable abbrev HK (g : Gl) : Prop := g.K = Mine.KK g.w.params
structure GI (g : Gl) (x : Str) (v : Value) : Prop where
  ns : nsIn g.K mainGlobals x = some (some v)
  hd : handedIn v = true
  kp : KeepOk g.K v
structure BI (g : Gl) (x : Str) (v : Value) : Prop where
  ns : nsIn g.K mainGlobals x = some none
  bo : bootBuiltins x = some v
  ne : x ≠ "__name__"
  hd : handedIn v = true
section
variable {g : Gl} {C : Cx} {X : XC} {σ : St} {n : Nat}
theorem N_g {x : Str} {v : Value} (gi : GI g x v) {E : Env} (he : C.env = E) {pos : Pos} {Q : AV → St → Prop} (ok : Ok g C n) (h : Q (.cst v) σ)
    (hx : E.kindOf x = some .globalImplicit := by rfl) (hd : (x == ("__debug__" : Str)) = false := by decide) : AW g C X (eval (.Name x pos) C.env) Q σ := N_glob he ok gi.ns h gi.hd hx hd
theorem N_b {x : Str} {v : Value} (gi : BI g x v) {E : Env} (he : C.env = E) {pos : Pos} {Q : AV → St → Prop} (ok : Ok g C n) (h : Q (.cst v) σ)
    (hx : E.kindOf x = some .globalImplicit := by rfl) (hd : (x == ("__debug__" : Str)) = false := by decide) : AW g C X (eval (.Name x pos) C.env) Q σ := N_bi he ok gi.ns gi.bo h gi.ne gi.hd hx hd
theorem gi_plain_text (hg : HK g) : GI g "plain_text" (.ref 241) := ⟨by rw [hg]; kernel_rfl, rfl, by show keepIn g.K _ = true; rw [hg]; kernel_rfl⟩
theorem gi_integer (hg : HK g) : GI g "integer" (.ref 131) := ⟨by rw [hg]; kernel_rfl, rfl, by show keepIn g.K _ = true; rw [hg]; kernel_rfl⟩
theorem gi_character (hg : HK g) : GI g "character" (.ref 138) := ⟨by rw [hg]; kernel_rfl, rfl, by show keepIn g.K _ = true; rw [hg]; kernel_rfl⟩
theorem gi_length (hg : HK g) : GI g "length" (.ref 145) := ⟨by rw [hg]; kernel_rfl, rfl, by show keepIn g.K _ = true; rw [hg]; kernel_rfl⟩
theorem gi_is_vector (hg : HK g) : GI g "is_vector" (.ref 152) := ⟨by rw [hg]; kernel_rfl, rfl, by show keepIn g.K _ = true; rw [hg]; kernel_rfl⟩
theorem gi_share (hg : HK g) : GI g "share" (.ref 159) := ⟨by rw [hg]; kernel_rfl, rfl, by show keepIn g.K _ = true; rw [hg]; kernel_rfl⟩
theorem gi_match_names (hg : HK g) : GI g "match_names" (.ref 252) := ⟨by rw [hg]; kernel_rfl, rfl, by show keepIn g.K _ = true; rw [hg]; kernel_rfl⟩
theorem gi_needed (hg : HK g) : GI g "needed" (.ref 259) := ⟨by rw [hg]; kernel_rfl, rfl, by show keepIn g.K _ = true; rw [hg]; kernel_rfl⟩
theorem gi_take (hg : HK g) : GI g "take" (.ref 265) := ⟨by rw [hg]; kernel_rfl, rfl, by show keepIn g.K _ = true; rw [hg]; kernel_rfl⟩
theorem gi_get_attr (hg : HK g) : GI g "get_attr" (.ref 272) := ⟨by rw [hg]; kernel_rfl, rfl, by show keepIn g.K _ = true; rw [hg]; kernel_rfl⟩
theorem gi_names_of (hg : HK g) : GI g "names_of" (.ref 277) := ⟨by rw [hg]; kernel_rfl, rfl, by show keepIn g.K _ = true; rw [hg]; kernel_rfl⟩
theorem gi_dim_of (hg : HK g) : GI g "dim_of" (.ref 284) := ⟨by rw [hg]; kernel_rfl, rfl, by show keepIn g.K _ = true; rw [hg]; kernel_rfl⟩
theorem gi_dimnames_of (hg : HK g) : GI g "dimnames_of" (.ref 289) := ⟨by rw [hg]; kernel_rfl, rfl, by show keepIn g.K _ = true; rw [hg]; kernel_rfl⟩
theorem gi_class_attr (hg : HK g) : GI g "class_attr" (.ref 296) := ⟨by rw [hg]; kernel_rfl, rfl, by show keepIn g.K _ = true; rw [hg]; kernel_rfl⟩
theorem gi_is_frame (hg : HK g) : GI g "is_frame" (.ref 303) := ⟨by rw [hg]; kernel_rfl, rfl, by show keepIn g.K _ = true; rw [hg]; kernel_rfl⟩
theorem gi_new_frame (hg : HK g) : GI g "new_frame" (.ref 308) := ⟨by rw [hg]; kernel_rfl, rfl, by show keepIn g.K _ = true; rw [hg]; kernel_rfl⟩
theorem gi_plain_rows (hg : HK g) : GI g "plain_rows" (.ref 315) := ⟨by rw [hg]; kernel_rfl, rfl, by show keepIn g.K _ = true; rw [hg]; kernel_rfl⟩
theorem gi_frame_rows (hg : HK g) : GI g "frame_rows" (.ref 322) := ⟨by rw [hg]; kernel_rfl, rfl, by show keepIn g.K _ = true; rw [hg]; kernel_rfl⟩
theorem gi_column_names (hg : HK g) : GI g "column_names" (.ref 327) := ⟨by rw [hg]; kernel_rfl, rfl, by show keepIn g.K _ = true; rw [hg]; kernel_rfl⟩
theorem gi_kept_attrs (hg : HK g) : GI g "kept_attrs" (.ref 334) := ⟨by rw [hg]; kernel_rfl, rfl, by show keepIn g.K _ = true; rw [hg]; kernel_rfl⟩
theorem gi_lacking (hg : HK g) : GI g "lacking" (.ref 341) := ⟨by rw [hg]; kernel_rfl, rfl, by show keepIn g.K _ = true; rw [hg]; kernel_rfl⟩
theorem gi_pick_items (hg : HK g) : GI g "pick_items" (.ref 348) := ⟨by rw [hg]; kernel_rfl, rfl, by show keepIn g.K _ = true; rw [hg]; kernel_rfl⟩
theorem gi_first_places (hg : HK g) : GI g "first_places" (.ref 388) := ⟨by rw [hg]; kernel_rfl, rfl, by show keepIn g.K _ = true; rw [hg]; kernel_rfl⟩
theorem gi_extending_places (hg : HK g) : GI g "extending_places" (.ref 402) := ⟨by rw [hg]; kernel_rfl, rfl, by show keepIn g.K _ = true; rw [hg]; kernel_rfl⟩
theorem gi_positions (hg : HK g) : GI g "positions" (.ref 409) := ⟨by rw [hg]; kernel_rfl, rfl, by show keepIn g.K _ = true; rw [hg]; kernel_rfl⟩
theorem gi_fitted_column (hg : HK g) : GI g "fitted_column" (.ref 414) := ⟨by rw [hg]; kernel_rfl, rfl, by show keepIn g.K _ = true; rw [hg]; kernel_rfl⟩
theorem gi_place_of_column (hg : HK g) : GI g "place_of_column" (.ref 421) := ⟨by rw [hg]; kernel_rfl, rfl, by show keepIn g.K _ = true; rw [hg]; kernel_rfl⟩
theorem gi_assign_column (hg : HK g) : GI g "assign_column" (.ref 428) := ⟨by rw [hg]; kernel_rfl, rfl, by show keepIn g.K _ = true; rw [hg]; kernel_rfl⟩
theorem gi_first_frame (hg : HK g) : GI g "first_frame" (.ref 435) := ⟨by rw [hg]; kernel_rfl, rfl, by show keepIn g.K _ = true; rw [hg]; kernel_rfl⟩
theorem gi_b_set_dollar (hg : HK g) : GI g "b_set_dollar" (.ref 442) := ⟨by rw [hg]; kernel_rfl, rfl, by show keepIn g.K _ = true; rw [hg]; kernel_rfl⟩
theorem gi__law_dip (hg : HK g) : GI g "_law_dip" (.ref 449) := ⟨by rw [hg]; kernel_rfl, rfl, by show keepIn g.K _ = true; rw [hg]; kernel_rfl⟩
theorem gi__law_fresh (hg : HK g) : GI g "_law_fresh" (.ref 454) := ⟨by rw [hg]; kernel_rfl, rfl, by show keepIn g.K _ = true; rw [hg]; kernel_rfl⟩
theorem gi__law_told (hg : HK g) : GI g "_law_told" (.ref 459) := ⟨by rw [hg]; kernel_rfl, rfl, by show keepIn g.K _ = true; rw [hg]; kernel_rfl⟩
theorem gi__law_sheet (hg : HK g) : GI g "_law_sheet" (.ref 464) := ⟨by rw [hg]; kernel_rfl, rfl, by show keepIn g.K _ = true; rw [hg]; kernel_rfl⟩
theorem gi_Refusal (hg : HK g) : GI g "Refusal" (.ref 51) := ⟨by rw [hg]; kernel_rfl, rfl, by show keepIn g.K _ = true; rw [hg]; kernel_rfl⟩
theorem gi_Null (hg : HK g) : GI g "Null" (.ref 70) := ⟨by rw [hg]; kernel_rfl, rfl, by show keepIn g.K _ = true; rw [hg]; kernel_rfl⟩
theorem gi_Vector (hg : HK g) : GI g "Vector" (.ref 99) := ⟨by rw [hg]; kernel_rfl, rfl, by show keepIn g.K _ = true; rw [hg]; kernel_rfl⟩
theorem gi_Symbol (hg : HK g) : GI g "Symbol" (.ref 120) := ⟨by rw [hg]; kernel_rfl, rfl, by show keepIn g.K _ = true; rw [hg]; kernel_rfl⟩
theorem gi_Matching (hg : HK g) : GI g "Matching" (.ref 216) := ⟨by rw [hg]; kernel_rfl, rfl, by show keepIn g.K _ = true; rw [hg]; kernel_rfl⟩
theorem bi_len (hg : HK g) : BI g "len" (.builtin "len") := ⟨by rw [hg]; kernel_rfl, by decide +kernel, by decide, by decide +kernel⟩
theorem bi_abs (hg : HK g) : BI g "abs" (.builtin "abs") := ⟨by rw [hg]; kernel_rfl, by decide +kernel, by decide, by decide +kernel⟩
theorem bi_range (hg : HK g) : BI g "range" (.type "range") := ⟨by rw [hg]; kernel_rfl, by decide +kernel, by decide, by decide +kernel⟩
theorem bi_list (hg : HK g) : BI g "list" (.type "list") := ⟨by rw [hg]; kernel_rfl, by decide +kernel, by decide, by decide +kernel⟩
theorem bi_isinstance (hg : HK g) : BI g "isinstance" (.builtin "isinstance") := ⟨by rw [hg]; kernel_rfl, by decide +kernel, by decide, by decide +kernel⟩
theorem bi_sorted (hg : HK g) : BI g "sorted" (.builtin "sorted") := ⟨by rw [hg]; kernel_rfl, by decide +kernel, by decide, by decide +kernel⟩
theorem bi_str (hg : HK g) : BI g "str" (.type "str") := ⟨by rw [hg]; kernel_rfl, by decide +kernel, by decide, by decide +kernel⟩
inductive GN : Str → Value → Prop
  | g241 : GN "plain_text" (.ref 241)
  | g131 : GN "integer" (.ref 131)
  | g138 : GN "character" (.ref 138)
  | g145 : GN "length" (.ref 145)
  | g152 : GN "is_vector" (.ref 152)
  | g159 : GN "share" (.ref 159)
  | g252 : GN "match_names" (.ref 252)
  | g259 : GN "needed" (.ref 259)
  | g265 : GN "take" (.ref 265)
  | g272 : GN "get_attr" (.ref 272)
  | g277 : GN "names_of" (.ref 277)
  | g284 : GN "dim_of" (.ref 284)
  | g289 : GN "dimnames_of" (.ref 289)
  | g296 : GN "class_attr" (.ref 296)
  | g303 : GN "is_frame" (.ref 303)
  | g308 : GN "new_frame" (.ref 308)
  | g315 : GN "plain_rows" (.ref 315)
  | g322 : GN "frame_rows" (.ref 322)
  | g327 : GN "column_names" (.ref 327)
  | g334 : GN "kept_attrs" (.ref 334)
  | g341 : GN "lacking" (.ref 341)
  | g348 : GN "pick_items" (.ref 348)
  | g388 : GN "first_places" (.ref 388)
  | g402 : GN "extending_places" (.ref 402)
  | g409 : GN "positions" (.ref 409)
  | g414 : GN "fitted_column" (.ref 414)
  | g421 : GN "place_of_column" (.ref 421)
  | g428 : GN "assign_column" (.ref 428)
  | g435 : GN "first_frame" (.ref 435)
  | g442 : GN "b_set_dollar" (.ref 442)
  | g449 : GN "_law_dip" (.ref 449)
  | g454 : GN "_law_fresh" (.ref 454)
  | g459 : GN "_law_told" (.ref 459)
  | g464 : GN "_law_sheet" (.ref 464)
  | g51 : GN "Refusal" (.ref 51)
  | g70 : GN "Null" (.ref 70)
  | g99 : GN "Vector" (.ref 99)
  | g120 : GN "Symbol" (.ref 120)
  | g216 : GN "Matching" (.ref 216)
theorem GN.gi (hg : HK g) {x : Str} {v : Value} (h : GN x v) : GI g x v := GN.rec (motive := fun x v _ => GI g x v) (gi_plain_text hg) (gi_integer hg) (gi_character hg) (gi_length hg) (gi_is_vector hg) (gi_share hg) (gi_match_names hg) (gi_needed hg) (gi_take hg) (gi_get_attr hg) (gi_names_of hg) (gi_dim_of hg) (gi_dimnames_of hg) (gi_class_attr hg) (gi_is_frame hg) (gi_new_frame hg) (gi_plain_rows hg) (gi_frame_rows hg) (gi_column_names hg) (gi_kept_attrs hg) (gi_lacking hg) (gi_pick_items hg) (gi_first_places hg) (gi_extending_places hg) (gi_positions hg) (gi_fitted_column hg) (gi_place_of_column hg) (gi_assign_column hg) (gi_first_frame hg) (gi_b_set_dollar hg) (gi__law_dip hg) (gi__law_fresh hg) (gi__law_told hg) (gi__law_sheet hg) (gi_Refusal hg) (gi_Null hg) (gi_Vector hg) (gi_Symbol hg) (gi_Matching hg) h
inductive BN : Str → Value → Prop
  | blen : BN "len" (.builtin "len")
  | babs : BN "abs" (.builtin "abs")
  | brange : BN "range" (.type "range")
  | blist : BN "list" (.type "list")
  | bisinstance : BN "isinstance" (.builtin "isinstance")
  | bsorted : BN "sorted" (.builtin "sorted")
  | bstr : BN "str" (.type "str")
theorem BN.bi (hg : HK g) {x : Str} {v : Value} (h : BN x v) : BI g x v := BN.rec (motive := fun x v _ => BI g x v) (bi_len hg) (bi_abs hg) (bi_range hg) (bi_list hg) (bi_isinstance hg) (bi_sorted hg) (bi_str hg) h
end

theorem AX.cut {g : Gl} {C : Cx} {X : XC} {t : Sem Flow} {σ : St} {Q Q' : AF → St → Prop} (h : ∀ Q₁ : AF → St → Prop, (∀ f σ', Q' f σ' → Q₁ f σ') → AX g C X t Q₁ σ) (k : ∀ f σ', Q' f σ' → Q f σ') : AX g C X t Q σ := (h Q' fun _ _ h => h).mono k
theorem AWg.cut {g : Gl} {C : Cx} {X : XC} {α β : Type} {R : Fz → List Addr → β → α → Prop} {t : Sem α} {σ : St} {Q Q' : β → St → Prop} (h : ∀ Q₁ : β → St → Prop, (∀ b σ', Q' b σ' → Q₁ b σ') → AWg g C X R t Q₁ σ) (k : ∀ b σ', Q' b σ' → Q b σ') : AWg g C X R t Q σ := (h Q' fun _ _ h => h).mono k
/-- bounds: n ≤ 1000 is what a walk's context says of a length -/
theorem le20 {n : Nat} (h : n ≤ 1000) : n ≤ 2 ^ 20 := Nat.le_trans h (by decide)
theorem na19 {n : Nat} (h : n ≤ 1000) : (n : Int).natAbs < 2 ^ 19 := Nat.lt_of_le_of_lt h (by decide)
theorem na19s {n : Nat} (h : n ≤ 1000) : (1 + (n : Int)).natAbs < 2 ^ 19 := by omega
theorem na20s {n : Nat} (h : n ≤ 1000) : ((n : Int) + 1).natAbs < 2 ^ 20 := by omega
theorem lt62 {n : Nat} (h : n ≤ 1000) : n < 2 ^ 62 := Nat.lt_of_le_of_lt h (by decide)
theorem le20m {α β : Type} {f : α → β} {xs : List α} (h : xs.length ≤ 1000) : (xs.map f).length ≤ 2 ^ 20 := by rw [List.length_map]; exact le20 h
theorem le20a {α β : Type} {f : α → β} {xs : List α} {y : β} (h : xs.length ≤ 1000) : (xs.map f ++ [y]).length ≤ 2 ^ 20 := by rw [List.length_append, List.length_map]; exact Nat.le_trans (Nat.add_le_add_right h 1) (by decide)
theorem lt62m {α β : Type} {f : α → β} {xs : List α} (h : xs.length ≤ 1000) : (xs.map f).length < 2 ^ 62 := by rw [List.length_map]; exact lt62 h
theorem log_n {n : Nat} (h : n ≤ 1000) : (n : Int).natAbs.log2 < 1920 := Nat.lt_of_le_of_lt (Nat.log2_le_self n) (Nat.lt_of_le_of_lt h (by decide))
theorem add20 {i j a b c : Nat} (h1 : i ≤ a) (h2 : j ≤ b) (h : a + b ≤ c) : i + j ≤ c := Nat.le_trans (Nat.add_le_add h1 h2) h
theorem sadd (s : Str) {t : Str} {a b : Nat} (h1 : s.length ≤ a) (h2 : t.length ≤ b) : (s ++ t).length ≤ a + b := by rw [strLen_append]; exact Nat.add_le_add h1 h2
theorem add20' {s t : Str} {a c : Nat} (h : (s ++ t).length ≤ a) (k : a ≤ c) : s.length + t.length ≤ c := by rw [← strLen_append]; exact Nat.le_trans h k
theorem fmod_n {i j : Nat} : (i : Int).fmod (j : Int) = ((i % j : Nat) : Int) := by rw [Int.fmod_eq_emod_of_nonneg _ (Int.natCast_nonneg _)]; rfl
theorem int_ne {a b : Nat} (h : (a : Int) ≠ (b : Int)) : a ≠ b := fun e => h (congrArg Int.ofNat e)
theorem way3 {w : Nat} (h : w < 4) (h3 : (w : Int) ≠ 3) : w < 3 := Nat.lt_of_le_of_ne (Nat.le_of_lt_succ h) (int_ne h3)
theorem of3 : ∀ n : Nat, n < 3 → n = 0 ∨ n = 1 ∨ n = 2 := by decide
theorem of6 : ∀ n : Nat, n < 6 → n = 0 ∨ n = 1 ∨ n = 2 ∨ n = 3 ∨ n = 4 ∨ n = 5 := by decide
theorem range_1len {m : Nat} : (rangeL 1 ((m : Int) + 1)).length = m := by unfold rangeL; rw [List.length_map, List.length_range, Int.add_sub_cancel]; rfl
theorem range_slen {m : Nat} : (rangeL 0 (1 + (m : Int))).length = 1 + m := by unfold rangeL; rw [List.length_map, List.length_range, Int.sub_zero]; rfl
theorem range_zlen {m : Nat} : (rangeL 0 (m : Int)).length = m := by unfold rangeL; rw [List.length_map, List.length_range, Int.sub_zero]; rfl
section
variable {g : Gl} {C : Cx} {X : XC} {σ : St} {n : Nat}
structure MI (g : Gl) (c : Addr) (nm : Str) (f : Addr) : Prop where
  pg : plainGet g.K c nm = true
  fi : findIn g.K (.ref c) nm = some (some (.ref f))
  fn : isFn g.K (.ref f) = true
  kp : KeepOk g.K (.ref f)
theorem M_meth (mi : MI g c nm f) (ok : Ok g C n) {x : AV} {ks : List Str} {xs : List AV} (hx : insOf σ x = some (c, ks, xs)) (hn : nm ∉ ks) : Meth g C σ x nm (.ref f) := M_ins ok mi.pg mi.fi mi.fn hx hn

theorem ck_V (hg : HK g) : CK g 99 89 := ⟨by rw [hg]; kernel_rfl, by rw [hg]; kernel_rfl, by rw [hg]; kernel_rfl⟩
theorem ci_V_kind (hg : HK g) : CI g 99 "kind" := ⟨by rw [hg]; kernel_rfl, by rw [hg]; kernel_rfl, by rw [hg]; kernel_rfl, by rw [hg]; kernel_rfl, by rw [hg]; kernel_rfl, by rw [hg]; kernel_rfl⟩
theorem ci_V_items (hg : HK g) : CI g 99 "items" := ⟨by rw [hg]; kernel_rfl, by rw [hg]; kernel_rfl, by rw [hg]; kernel_rfl, by rw [hg]; kernel_rfl, by rw [hg]; kernel_rfl, by rw [hg]; kernel_rfl⟩
theorem ci_V_attrs (hg : HK g) : CI g 99 "attrs" := ⟨by rw [hg]; kernel_rfl, by rw [hg]; kernel_rfl, by rw [hg]; kernel_rfl, by rw [hg]; kernel_rfl, by rw [hg]; kernel_rfl, by rw [hg]; kernel_rfl⟩
theorem ci_V_shared (hg : HK g) : CI g 99 "shared" := ⟨by rw [hg]; kernel_rfl, by rw [hg]; kernel_rfl, by rw [hg]; kernel_rfl, by rw [hg]; kernel_rfl, by rw [hg]; kernel_rfl, by rw [hg]; kernel_rfl⟩
theorem ci_V_loose (hg : HK g) : CI g 99 "loose" := ⟨by rw [hg]; kernel_rfl, by rw [hg]; kernel_rfl, by rw [hg]; kernel_rfl, by rw [hg]; kernel_rfl, by rw [hg]; kernel_rfl, by rw [hg]; kernel_rfl⟩
theorem ck_N (hg : HK g) : CK g 70 67 := ⟨by rw [hg]; kernel_rfl, by rw [hg]; kernel_rfl, by rw [hg]; kernel_rfl⟩
theorem ci_N_kind (hg : HK g) : CI g 70 "kind" := ⟨by rw [hg]; kernel_rfl, by rw [hg]; kernel_rfl, by rw [hg]; kernel_rfl, by rw [hg]; kernel_rfl, by rw [hg]; kernel_rfl, by rw [hg]; kernel_rfl⟩
theorem ci_N_attrs (hg : HK g) : CI g 70 "attrs" := ⟨by rw [hg]; kernel_rfl, by rw [hg]; kernel_rfl, by rw [hg]; kernel_rfl, by rw [hg]; kernel_rfl, by rw [hg]; kernel_rfl, by rw [hg]; kernel_rfl⟩
theorem ck_S (hg : HK g) : CK g 120 117 := ⟨by rw [hg]; kernel_rfl, by rw [hg]; kernel_rfl, by rw [hg]; kernel_rfl⟩
theorem ci_S_kind (hg : HK g) : CI g 120 "kind" := ⟨by rw [hg]; kernel_rfl, by rw [hg]; kernel_rfl, by rw [hg]; kernel_rfl, by rw [hg]; kernel_rfl, by rw [hg]; kernel_rfl, by rw [hg]; kernel_rfl⟩
theorem ci_S_name (hg : HK g) : CI g 120 "name" := ⟨by rw [hg]; kernel_rfl, by rw [hg]; kernel_rfl, by rw [hg]; kernel_rfl, by rw [hg]; kernel_rfl, by rw [hg]; kernel_rfl, by rw [hg]; kernel_rfl⟩
theorem ci_S_attrs (hg : HK g) : CI g 120 "attrs" := ⟨by rw [hg]; kernel_rfl, by rw [hg]; kernel_rfl, by rw [hg]; kernel_rfl, by rw [hg]; kernel_rfl, by rw [hg]; kernel_rfl, by rw [hg]; kernel_rfl⟩
theorem ck_M (hg : HK g) : CK g 216 173 := ⟨by rw [hg]; kernel_rfl, by rw [hg]; kernel_rfl, by rw [hg]; kernel_rfl⟩
theorem ci_M_formals (hg : HK g) : CI g 216 "formals" := ⟨by rw [hg]; kernel_rfl, by rw [hg]; kernel_rfl, by rw [hg]; kernel_rfl, by rw [hg]; kernel_rfl, by rw [hg]; kernel_rfl, by rw [hg]; kernel_rfl⟩
theorem ci_M_tags (hg : HK g) : CI g 216 "tags" := ⟨by rw [hg]; kernel_rfl, by rw [hg]; kernel_rfl, by rw [hg]; kernel_rfl, by rw [hg]; kernel_rfl, by rw [hg]; kernel_rfl, by rw [hg]; kernel_rfl⟩
theorem ci_M_used (hg : HK g) : CI g 216 "used" := ⟨by rw [hg]; kernel_rfl, by rw [hg]; kernel_rfl, by rw [hg]; kernel_rfl, by rw [hg]; kernel_rfl, by rw [hg]; kernel_rfl, by rw [hg]; kernel_rfl⟩
theorem ci_M_places (hg : HK g) : CI g 216 "places" := ⟨by rw [hg]; kernel_rfl, by rw [hg]; kernel_rfl, by rw [hg]; kernel_rfl, by rw [hg]; kernel_rfl, by rw [hg]; kernel_rfl, by rw [hg]; kernel_rfl⟩
theorem mi_exact (hg : HK g) : MI g 216 "exact" 180 := ⟨by rw [hg]; kernel_rfl, by rw [hg]; kernel_rfl, by rw [hg]; kernel_rfl, by show keepIn g.K _ = true; rw [hg]; kernel_rfl⟩
theorem mi_partial (hg : HK g) : MI g 216 "partial" 187 := ⟨by rw [hg]; kernel_rfl, by rw [hg]; kernel_rfl, by rw [hg]; kernel_rfl, by show keepIn g.K _ = true; rw [hg]; kernel_rfl⟩
theorem mi_partial_of (hg : HK g) : MI g 216 "partial_of" 194 := ⟨by rw [hg]; kernel_rfl, by rw [hg]; kernel_rfl, by rw [hg]; kernel_rfl, by show keepIn g.K _ = true; rw [hg]; kernel_rfl⟩
theorem mi_positional (hg : HK g) : MI g 216 "positional" 201 := ⟨by rw [hg]; kernel_rfl, by rw [hg]; kernel_rfl, by rw [hg]; kernel_rfl, by show keepIn g.K _ = true; rw [hg]; kernel_rfl⟩
theorem mi_is_free (hg : HK g) : MI g 216 "is_free" 208 := ⟨by rw [hg]; kernel_rfl, by rw [hg]; kernel_rfl, by rw [hg]; kernel_rfl, by show keepIn g.K _ = true; rw [hg]; kernel_rfl⟩
theorem mi_rest (hg : HK g) : MI g 216 "rest" 213 := ⟨by rw [hg]; kernel_rfl, by rw [hg]; kernel_rfl, by rw [hg]; kernel_rfl, by show keepIn g.K _ = true; rw [hg]; kernel_rfl⟩
inductive CN : Addr → Str → Prop
  | Vkind : CN 99 "kind"
  | Vitems : CN 99 "items"
  | Vattrs : CN 99 "attrs"
  | Vshared : CN 99 "shared"
  | Vloose : CN 99 "loose"
  | Nkind : CN 70 "kind"
  | Nattrs : CN 70 "attrs"
  | Skind : CN 120 "kind"
  | Sname : CN 120 "name"
  | Sattrs : CN 120 "attrs"
  | Mformals : CN 216 "formals"
  | Mtags : CN 216 "tags"
  | Mused : CN 216 "used"
  | Mplaces : CN 216 "places"
theorem CN.ci (hg : HK g) {c : Addr} {x : Str} (h : CN c x) : CI g c x := CN.rec (motive := fun c x _ => CI g c x) (ci_V_kind hg) (ci_V_items hg) (ci_V_attrs hg) (ci_V_shared hg) (ci_V_loose hg) (ci_N_kind hg) (ci_N_attrs hg) (ci_S_kind hg) (ci_S_name hg) (ci_S_attrs hg) (ci_M_formals hg) (ci_M_tags hg) (ci_M_used hg) (ci_M_places hg) h
inductive MN : Str → Addr → Prop
  | m180 : MN "exact" 180
  | m187 : MN "partial" 187
  | m194 : MN "partial_of" 194
  | m201 : MN "positional" 201
  | m208 : MN "is_free" 208
  | m213 : MN "rest" 213
theorem MN.mi (hg : HK g) {x : Str} {a : Addr} (h : MN x a) : MI g 216 x a := MN.rec (motive := fun x a _ => MI g 216 x a) (mi_exact hg) (mi_partial hg) (mi_partial_of hg) (mi_positional hg) (mi_is_free hg) (mi_rest hg) h
theorem ex_meth {nm : Str} {f : Addr} {P : Value → Prop} (hg : HK g) (ok : Ok g C n) (h : MN nm f) {x : AV} {ks : List Str} {xs : List AV} (hx : insOf σ x = some (216, ks, xs)) (hn : nm ∉ ks) (k : P (.ref f)) : ∃ fv, Meth g C σ x nm fv ∧ KeepOk g.K fv ∧ P fv :=
  ⟨_, M_meth (MN.mi hg h) ok hx hn, (MN.mi hg h).kp, k⟩
theorem A_setT {H : List HO} {loc : List (Option AV)} {c : Addr} {nm : Str} {ks : List Str} {xs : List AV} {y : AV} {Q : Unit → St → Prop} (ok : Ok g C n) (ci : CI g c nm) (hz : ks.length ≤ 900) (h : Q () ⟨H ++ [.ins c (putK ks nm) (putX ks xs nm y)], loc⟩) :
    AWh g C X (fun _ _ (_ : Unit) _ => True) [.ref H.length, y] (val2 fun a b => setAttr a nm b) Q ⟨H ++ [.ins c ks xs], loc⟩ := by
  refine A_set (c := c) (ks := ks) (xs := xs) ok ci (by simp) hz ?_
  have e : (H ++ [HO.ins c ks xs]).set H.length (.ins c (putK ks nm) (putX ks xs nm y)) = H ++ [.ins c (putK ks nm) (putX ks xs nm y)] := by
    rw [List.set_append_right _ _ (Nat.le_refl _), Nat.sub_self]; rfl
  rw [show (⟨H ++ [HO.ins c ks xs], loc⟩ : St).heap.set H.length (.ins c (putK ks nm) (putX ks xs nm y)) = H ++ [.ins c (putK ks nm) (putX ks xs nm y)] from e]
  exact h
theorem by_true {b : Bool} {A B : Prop} (e : b = true) (h : A) : (b = true → A) ∧ (b = false → B) := ⟨fun _ => h, fun q => by rw [e] at q; cases q⟩
theorem by_false {b : Bool} {A B : Prop} (e : b = false) (h : B) : (b = true → A) ∧ (b = false → B) := ⟨fun q => (by rw [e] at q; cases q), fun _ => h⟩
theorem by_true' {b : Bool} {A B : Prop} (e : b = true) (h : A) : (b = false → B) ∧ (b = true → A) := ⟨fun q => (by rw [e] at q; cases q), fun _ => h⟩
theorem by_false' {b : Bool} {A B : Prop} (e : b = false) (h : B) : (b = false → B) ∧ (b = true → A) := ⟨fun _ => h, fun q => by rw [e] at q; cases q⟩
theorem itr_list (ok : Ok g C n) {xs : List FV} (hz : xs.length ≤ 2 ^ 20) {P : List FV → Prop} (h : P xs) : ∃ ys Pr, Itr g C (.f (.lst xs)) ys Pr ∧ ys.length ≤ 2 ^ 20 ∧ P ys := ⟨xs, _, Itr.list ok xs, hz, h⟩
theorem itr_range (ok : Ok g C n) {a b : Int} (h1 : a.natAbs < 2 ^ 19) (h2 : b.natAbs < 2 ^ 19) (h3 : True) {P : List FV → Prop} (h : P (rangeL a b)) : ∃ ys Pr, Itr g C (.f (.rng a b)) ys Pr ∧ ys.length ≤ 2 ^ 20 ∧ P ys :=
  ⟨_, _, Itr.range ok (Nat.lt_trans h1 (by decide)) (Nat.lt_trans h2 (by decide)), by unfold rangeL; rw [List.length_map, List.length_range]; exact Nat.le_of_lt (sub_small h1 h2), h⟩
theorem fitr_list (ok : Ok g C n) {xs : List FV} {P : List FV → Prop} (h : P xs) : ∃ ys Pr, Itr g C (.f (.lst xs)) ys Pr ∧ P ys := ⟨xs, _, Itr.list ok xs, h⟩
theorem fitr_range (ok : Ok g C n) {a b : Int} (h1 : a.natAbs < 2 ^ 19) (h2 : b.natAbs < 2 ^ 19) {P : List FV → Prop} (h : P (rangeL a b)) : ∃ ys Pr, Itr g C (.f (.rng a b)) ys Pr ∧ P ys := ⟨_, _, Itr.range ok (Nat.lt_trans h1 (by decide)) (Nat.lt_trans h2 (by decide)), h⟩
theorem fitr_dict (ok : Ok g C n) {ks : List Str} {xs : List FV} {P : List FV → Prop} (h : P (ks.map .str)) : ∃ ys Pr, Itr g C (.f (.dct ks xs)) ys Pr ∧ P ys := ⟨_, _, Itr.dict ok ks xs, h⟩
theorem comp_map {f : FV → FV} {elt : Expr} {cv : List (Option AV)} {Qend : List AV → List HO → Prop} {H : List HO} : ∀ {xs : List FV} {acc : List AV}, (∀ x ∈ xs, AW g C XC.no (eval elt C.env) (fun y σ' => y = .f (f x) ∧ σ' = ⟨H, some (.f x) :: cv⟩) ⟨H, some (.f x) :: cv⟩) →
    Qend (acc ++ xs.map fun x => .f (f x)) H → CompQ g C elt [] cv Qend xs acc H
  | [], acc, _, h => by simpa [CompQ] using h
  | x :: xs, acc, k, h => by
    unfold CompQ
    refine (k x (.head _)).mono ?_
    rintro y σ' ⟨rfl, rfl⟩
    refine ⟨rfl, comp_map (fun z hz => k z (.tail _ hz)) ?_⟩
    rw [List.append_assoc]; exact h
theorem ce_frozen {Q : AV → St → Prop} {loc : List (Option AV)} {H : List HO} {f : FV → FV} {xs : List FV} (h : Q (.f (.lst (xs.map f))) ⟨H, loc⟩) : CE Q loc (([] : List AV) ++ xs.map fun x => .f (f x)) H :=
  .inl ⟨xs.map f, by rw [List.nil_append, List.map_map]; rfl, h⟩
theorem for_inv {target : Expr} {body : List Stmt} {Qn : St → Prop} {Q : AF → St → Prop} (I : List FV → St → Prop) (h0 : ∀ σ, I [] σ → Qn σ)
    (hs : ∀ x xs σ, I (x :: xs) σ → AWh g C XC.no RU [.f x] (val1 (assign target C.env)) (fun _ σ₁ => AX g C XC.no (execs body C.env) (fun f σ₂ => match f with
      | .next => I xs σ₂
      | .cont => I xs σ₂
      | .brk => Q .next σ₂
      | .ret v => Q (.ret v) σ₂) σ₁) σ) : ∀ xs σ, I xs σ → ForQ g C target body Qn Q xs σ
  | [], σ, h => h0 σ h
  | x :: xs, σ, h => by
    unfold ForQ
    refine (hs x xs σ h).mono fun _ σ₁ hx => hx.mono fun f σ₂ hf => ?_
    cases f with
    | next => exact for_inv I h0 hs xs σ₂ hf
    | cont => exact for_inv I h0 hs xs σ₂ hf
    | brk => exact hf
    | ret v => exact hf
theorem ex_str {s : Str} {P : Str → Prop} (h : P s) : ∃ kk, AV.str s = .str kk ∧ P kk := ⟨s, rfl, h⟩
theorem nd_and {l : List Str} {P : Prop} (h : l.Nodup) (k : P) : l.Nodup ∧ P := ⟨h, k⟩
theorem isi_V (hg : HK g) : isIn g.K (.ref 99) 99 = true := by rw [hg]; kernel_rfl
theorem big (hg : HK g) (ok : Ok g C n) : sysModules < C.h₀.objs.size := big_of ok (a := 99) (by rw [hg]; kernel_rfl) (by decide)
theorem N_gn (hg : HK g) {x : Str} {v : Value} {E : Env} (he : C.env = E) (gn : GN x v) {pos : Pos} {Q : AV → St → Prop} (ok : Ok g C n) (h : Q (.cst v) σ)
    (hx : E.kindOf x = some .globalImplicit) (hd : (x == ("__debug__" : Str)) = false) : AW g C X (eval (.Name x pos) C.env) Q σ := N_g (GN.gi hg gn) he ok h hx hd
theorem N_bn (hg : HK g) {x : Str} {v : Value} {E : Env} (he : C.env = E) (gn : BN x v) {pos : Pos} {Q : AV → St → Prop} (ok : Ok g C n) (h : Q (.cst v) σ)
    (hx : E.kindOf x = some .globalImplicit) (hd : (x == ("__debug__" : Str)) = false) : AW g C X (eval (.Name x pos) C.env) Q σ := N_b (BN.bi hg gn) he ok h hx hd
theorem GN_kp (hg : HK g) {x : Str} {v : Value} (gn : GN x v) : KeepOk g.K v := (GN.gi hg gn).kp
theorem Bind_mk {S : List Slot} (hs : C.slots = S) {x : Str} {v : AV} {P : St → Prop} {loc' : List (Option AV)} (st : Store S σ.loc x (some v) loc') (h : P ⟨σ.heap, loc'⟩) : Bind C σ x v P := Bind.mk hs st h
theorem ex_cst2 {v : Value} {P : Value → Prop} (k : KeepOk g.K v) (h : P v) : ∃ fv, AV.cst v = .cst fv ∧ KeepOk g.K fv ∧ P fv := ⟨v, rfl, k, h⟩
theorem ex_get {x : AV} {ks : List Str} {xs : List AV} {P : Value → Prop} (hx : dctOf σ x = some (ks, xs)) (k : P (.builtin "dict.get")) : ∃ fv, Meth g C σ x "get" fv ∧ KeepOk g.K fv ∧ P fv := ⟨_, M_dict hx PySem.F.slot_dict_get PySem.F.type_dict_get, True.intro, k⟩
theorem ex_append {x : AV} {xs : List AV} {P : Value → Prop} (hx : lstOf σ x = some xs) (k : P (.builtin "list.append")) : ∃ fv, Meth g C σ x "append" fv ∧ KeepOk g.K fv ∧ P fv := ⟨_, M_list hx PySem.F.slot_list_append PySem.F.type_list_append, True.intro, k⟩
theorem ex_starts {x : Str} {P : Value → Prop} (k : P (.builtin "str.startswith")) : ∃ fv, Meth g C σ (.str x) "startswith" fv ∧ KeepOk g.K fv ∧ P fv := ⟨_, M_str PySem.F.slot_str_startswith PySem.F.type_str_startswith, True.intro, k⟩
theorem A_getC {x y : AV} {c : Addr} {nm : Str} {ks : List Str} {xs : List AV} {expr : Bool} {Q : AV → St → Prop} (hg : HK g) (ok : Ok g C n) (hx : insOf σ x = some (c, ks, xs)) (cn : CN c nm) (hf : fieldOf ks xs nm = some y) (hn : nm ≠ "shared") (h : Q y σ) :
    AWh g C X (VR g.prog g.w) [x] (val1 fun o => getAttr o nm expr) Q σ := A_get ok (CN.ci hg cn) hx hf hn h
theorem A_setC {i : Nat} {y : AV} {c : Addr} {nm : Str} {ks : List Str} {xs : List AV} {Q : Unit → St → Prop} (hg : HK g) (ok : Ok g C n) (hx : σ.heap[i]? = some (.ins c ks xs)) (cn : CN c nm) (hz : ks.length ≤ 900)
    (h : Q () ⟨σ.heap.set i (.ins c (putK ks nm) (putX ks xs nm y)), σ.loc⟩) : AWh g C X (fun _ _ (_ : Unit) _ => True) [.ref i, y] (val2 fun a b => setAttr a nm b) Q σ := A_set ok (CN.ci hg cn) hx hz h
theorem A_setTC {H : List HO} {loc : List (Option AV)} {c : Addr} {nm : Str} {ks : List Str} {xs : List AV} {y : AV} {Q : Unit → St → Prop} (hg : HK g) (ok : Ok g C n) (cn : CN c nm) (hz : ks.length ≤ 900) (h : Q () ⟨H ++ [.ins c (putK ks nm) (putX ks xs nm y)], loc⟩) :
    AWh g C X (fun _ _ (_ : Unit) _ => True) [.ref H.length, y] (val2 fun a b => setAttr a nm b) Q ⟨H ++ [.ins c ks xs], loc⟩ := A_setT ok (CN.ci hg cn) hz h
theorem L_isiC {x : AV} {ks : List Str} {xs : List AV} {Q : AV → St → Prop} (hg : HK g) (ok : Ok g C n) (hx : insOf σ x = some (99, ks, xs)) (h : Q (.bool true) σ) : AWh g C X (VR g.prog g.w) [x, .cst (.ref 99)] (fun vs => call (.builtin "isinstance") vs) Q σ := L_isi ok hx (isi_V hg) h
theorem R_dict0B {pos : Pos} {Q : AV → St → Prop} (hg : HK g) (ok : Ok g C n) (h : Q (.ref σ.heap.length) ⟨σ.heap ++ [.dct [] []], σ.loc⟩) : AW g C X (eval (.Dict [] [] pos) C.env) Q σ := R_dict0 (big hg ok) h
theorem R_dictB {keys : List (Option Expr)} {values : List Expr} {pos : Pos} {Q : AV → St → Prop} (hg : HK g) (ok : Ok g C n)
    (h : AWg g C XC.no (PRs g) (evalPairs (pairTrees keys values C.env pos)) (fun ps σ₁ => (ps.map (·.1)).Nodup ∧ Q (.ref σ₁.heap.length) ⟨σ₁.heap ++ [.dct (ps.map (·.1)) (ps.map (·.2))], σ₁.loc⟩) σ)
    (hall : keys.all (·.isSome) = true) (hl : keys.length = values.length) (h0 : keys ≠ []) (hlen : keys.length ≤ 15) : AW g C X (eval (.Dict keys values pos) C.env) Q σ := R_dict (big hg ok) h hall hl h0 hlen
theorem R_subN {value : Expr} {x : Str} {p : Pos} {pos : Pos} {Q : AV → St → Prop} (h : AW g C X (eval value C.env) (fun o σ₁ => AW g C X (eval (.Name x p) C.env) (fun i σ₂ => AWh g C X (VR g.prog g.w) [o, i] (val2 (subscriptTail value (.Name x p))) Q σ₂) σ₁) σ) :
    AW g C X (eval (.Subscript value (.Name x p) pos) C.env) Q σ := R_sub h
theorem R_subK {value : Expr} {c : Const} {k : Nat} {p : Pos} {pos : Pos} {Q : AV → St → Prop} (h : AW g C X (eval value C.env) (fun o σ₁ => AW g C X (eval (.Constant c k p) C.env) (fun i σ₂ => AWh g C X (VR g.prog g.w) [o, i] (val2 (subscriptTail value (.Constant c k p))) Q σ₂) σ₁) σ) :
    AW g C X (eval (.Subscript value (.Constant c k p) pos) C.env) Q σ := R_sub h
theorem R_subB {value : Expr} {l r : Expr} {op : Operator} {p : Pos} {pos : Pos} {Q : AV → St → Prop} (h : AW g C X (eval value C.env) (fun o σ₁ => AW g C X (eval (.BinOp l op r p) C.env) (fun i σ₂ => AWh g C X (VR g.prog g.w) [o, i] (val2 (subscriptTail value (.BinOp l op r p))) Q σ₂) σ₁) σ) :
    AW g C X (eval (.Subscript value (.BinOp l op r p) pos) C.env) Q σ := R_sub h
theorem R_subS {value : Expr} {a b : Expr} {p : Pos} {pos : Pos} {Q : AV → St → Prop} (h : AW g C X (eval value C.env) (fun o σ₁ => AW g C X (eval (.Subscript a b p) C.env) (fun i σ₂ => AWh g C X (VR g.prog g.w) [o, i] (val2 (subscriptTail value (.Subscript a b p))) Q σ₂) σ₁) σ) :
    AW g C X (eval (.Subscript value (.Subscript a b p) pos) C.env) Q σ := R_sub h
theorem R_subC {value : Expr} {f : Expr} {as : List Expr} {ks : List Keyword} {p : Pos} {pos : Pos} {Q : AV → St → Prop} (h : AW g C X (eval value C.env) (fun o σ₁ => AW g C X (eval (.Call f as ks p) C.env) (fun i σ₂ => AWh g C X (VR g.prog g.w) [o, i] (val2 (subscriptTail value (.Call f as ks p))) Q σ₂) σ₁) σ) :
    AW g C X (eval (.Subscript value (.Call f as ks p) pos) C.env) Q σ := R_sub h
theorem len1 {vs : List Value} (h : vs.length = 1) : ∃ a, vs = [a] := List.length_eq_one_iff.mp h
theorem len2 {vs : List Value} (h : vs.length = 2) : ∃ a b, vs = [a, b] := by
  obtain ⟨a, t, rfl⟩ := List.exists_cons_of_length_eq_add_one h
  obtain ⟨b, rfl⟩ := len1 (Nat.succ.inj h)
  exact ⟨a, b, rfl⟩
theorem len3 {vs : List Value} (h : vs.length = 3) : ∃ a b c, vs = [a, b, c] := by
  obtain ⟨a, t, rfl⟩ := List.exists_cons_of_length_eq_add_one h
  obtain ⟨b, c, rfl⟩ := len2 (Nat.succ.inj h)
  exact ⟨a, b, c, rfl⟩
theorem len4 {vs : List Value} (h : vs.length = 4) : ∃ a b c d, vs = [a, b, c, d] := by
  obtain ⟨a, t, rfl⟩ := List.exists_cons_of_length_eq_add_one h
  obtain ⟨b, c, d, rfl⟩ := len3 (Nat.succ.inj h)
  exact ⟨a, b, c, d, rfl⟩
theorem all1 {P : List Value → Prop} (k : ∀ a, P [a]) (vs : List Value) (h : vs.length = 1) : P vs := by obtain ⟨a, rfl⟩ := len1 h; exact k a
theorem all2 {P : List Value → Prop} (k : ∀ a b, P [a, b]) (vs : List Value) (h : vs.length = 2) : P vs := by obtain ⟨a, b, rfl⟩ := len2 h; exact k a b
theorem all3 {P : List Value → Prop} (k : ∀ a b c, P [a, b, c]) (vs : List Value) (h : vs.length = 3) : P vs := by obtain ⟨a, b, c, rfl⟩ := len3 h; exact k a b c
theorem all4 {P : List Value → Prop} (k : ∀ a b c d, P [a, b, c, d]) (vs : List Value) (h : vs.length = 4) : P vs := by obtain ⟨a, b, c, d, rfl⟩ := len4 h; exact k a b c d
end
 def kKw (k : Lean.Name) (s : String) : Lean.MacroM (Lean.TSyntax `tactic) := pure ⟨Lean.mkNode k #[Lean.mkAtom s]⟩
 def kTac (c : Char) : Lean.MacroM (Lean.TSyntax `tactic) := match c with
  | 'a' => kKw ``Lean.Parser.Tactic.assumption "assumption"
  | 'r' => kKw ``Lean.Parser.Tactic.tacticRfl "rfl"
  | 'd' => `(tactic| decide)
  | 's' => kKw `PySem.W.tacticKct_strs "kct_strs"
  | 'm' => kKw `PySem.W.tacticK_memK "k_memK"
  | 'o' => kKw `PySem.W.tacticK_offL "k_offL"
  | 'k' => kKw `PySem.W.tacticKat_tups "kat_tups"
  | 'u' => `(tactic| with_unfolding_all rfl)
  | 'i' => `(tactic| (intro _; rfl))
  | 'n' => `(tactic| with_reducible constructor)
  | 'e' => `(tactic| (rw [‹Cx.env _ = _›]; rfl))
  | 'g' => `(tactic| (rw [‹Cx.slots _ = _›, ‹Cx.env _ = _›]; kcj_m))
  | 'w' => `(tactic| simp)
  | 'l' => `(tactic| (dsimp only [List.map]; decide))
  | _ => `(tactic| first | exact .inl ⟨_, _, _, rfl⟩ | (refine .inr ?_; intro _ _; rfl))
 def kArg (a : String) (r : Lean.MacroM (List (Lean.TSyntax `term) × Option (Lean.TSyntax `tactic))) : Lean.MacroM (List (Lean.TSyntax `term) × Option (Lean.TSyntax `tactic)) := do
  let r ← r
  if a == "_" then pure ((← `(?_)) :: r.1, r.2)
  else if a == "*" then pure ((← `(‹_›)) :: r.1, r.2)
  else if a == "$" then pure ((← `(‹Ok _ _ _›)) :: r.1, r.2)
  else
    let i := Lean.mkIdent (Lean.Name.mkSimple ("w_" ++ a))
    let t ← kTac a.front
    let c ← `(tactic| case $i:ident => $t:tactic)
    pure ((← `(?$i)) :: r.1, some (← match r.2 with | some q => `(tactic| ($c:tactic; $q:tactic)) | none => pure c))
 def kArgs (as : List String) : Lean.MacroM (List (Lean.TSyntax `term) × Option (Lean.TSyntax `tactic)) := as.foldr kArg (pure ([], none))
 def kAlt : List String → Lean.MacroM (Lean.TSyntax `tactic)
  | [] => `(tactic| fail)
  | f :: as => do
    if f == "!" then
      let r ← kArgs as.tail
      let t : Lean.TSyntax `term := ⟨Lean.Syntax.mkApp (Lean.mkIdent (Lean.Name.mkSimple as.head!)) r.1.toArray⟩
      match r.2 with | some q => `(tactic| ((refine' $t); $q:tactic)) | none => `(tactic| refine' $t)
    else
      let r ← kArgs as
      let t : Lean.TSyntax `term := ⟨Lean.Syntax.mkApp (Lean.mkIdent (Lean.Name.mkSimple f)) r.1.toArray⟩
      match r.2 with | some q => `(tactic| ((with_reducible refine' $t); $q:tactic)) | none => `(tactic| with_reducible refine $t)
 def kApp (l : List (Lean.TSyntax `term)) : Lean.TSyntax `term := match l.reverse with
  | [] => ⟨.missing⟩
  | [x] => x
  | f :: xs => ⟨Lean.Syntax.mkApp f xs.toArray⟩
 def kTok (st : List (Lean.TSyntax `term) × List (List (Lean.TSyntax `term))) (a : String) : List (Lean.TSyntax `term) × List (List (Lean.TSyntax `term)) :=
  if a == "(" then ([], st.1 :: st.2)
  else if a == ")" then match st.2 with
    | c :: r => (kApp st.1 :: c, r)
    | [] => st
  else ((if a == "_" then ⟨Lean.mkNode ``Lean.Parser.Term.hole #[Lean.mkAtom "_"]⟩ else Lean.mkIdent a.toName) :: st.1, st.2)
 def kPat (as : List String) : Lean.TSyntax `term := kApp (as.foldl kTok ([], [])).1
 def kFst (s : String) (r : Lean.MacroM (Lean.TSyntax `tactic)) : Lean.MacroM (Lean.TSyntax `tactic) := do
  let a ← kAlt (s.splitOn " ")
  let r ← r
  `(tactic| first | $a:tactic | $r:tactic)
 def kFirst (ss : List String) : Lean.MacroM (Lean.TSyntax `tactic) := do ss.foldr kFst `(tactic| fail "aw")
 def kGrp (s : Lean.TSyntax `str) (r : Lean.MacroM (Lean.TSyntax `tactic)) : Lean.MacroM (Lean.TSyntax `tactic) := do
  let a ← match s.getString.splitOn " : " with
    | p :: q :: as => do
      let t := kPat (p.splitOn " ")
      let u ← kFirst (q :: as)
      `(tactic| ((with_reducible show $t); $u:tactic))
    | as => kFirst as
  let r ← r
  `(tactic| first | $a:tactic | $r:tactic)
 def kGrps (ss : List (Lean.TSyntax `str)) : Lean.MacroM (Lean.TSyntax `tactic) := ss.foldr kGrp `(tactic| fail "aw")

/-- a tree that calls nothing and keeps every object's own dict -/
noncomputable def Nice {α : Type} : Sem α → Prop
  | .pure _ => True
  | .raise _ => True
  | .unsupported _ => True
  | .finish _ => True
  | .rule _ k => Nice (k ())
  | .at _ k => Nice (k ())
  | .load _ _ k => ∀ o, Nice (k o)
  | .update _ _ f k => (∀ o, (f o).dict = o.dict) ∧ Nice (k ())
  | .alloc _ k => ∀ a, Nice (k a)
  | .loadIfAlive _ k => ∀ o, Nice (k o)
  | .point _ k => Nice (k ())
  | .register _ k => Nice (k ())
  | .fresh k => ∀ t, Nice (k t)
  | .ask k => ∀ s, Nice (k s)
  | .choose _ _ k => ∀ n, Nice (k n)
  | .os _ _ k => ∀ r, Nice (k r)
  | .call .. => False
  | .handled _ k => ∀ v, Nice (k v)
  | .newGen _ k => ∀ n, Nice (k n)
  | .genState _ k => ∀ n, Nice (k n)
  | .resume .. => False
  | .yield .. => False
  | .stack k => ∀ l, Nice (k l)
  | .fork .. => False
  | .thread k => ∀ n, Nice (k n)
  | .await .. => False
theorem Nice.bind {α β : Type} {f : α → Sem β} (k : ∀ a, Nice (f a)) : ∀ {t : Sem α}, Nice t → Nice (t.bind f) := by
  intro t
  induction t <;> intro h
  all_goals first
    | exact k _
    | exact True.intro
    | exact (h : False).elim
    | (rename_i ih; exact ih _ h)
    | (rename_i ih; exact fun x => ih x (h x))
    | (rename_i ih; exact ⟨h.1, ih _ h.2⟩)
    | exact h.elim
theorem Nice.bind' {α β : Type} {t : Sem α} {f : α → Sem β} (h : Nice t) (k : ∀ a, Nice (f a)) : Nice (t >>= f) := Nice.bind k h
theorem Nice.pure' {α : Type} {a : α} : Nice (Pure.pure a : Sem α) := trivial

/-- the objects' own dicts are kept -/
noncomputable def DK (h h' : Heap) : Prop := ∀ (b : Nat) (o : Obj), h.objs[b]? = some o → ∃ o' : Obj, h'.objs[b]? = some o' ∧ o'.dict = o.dict
theorem DK.refl (h : Heap) : DK h h := fun _ o e => ⟨o, e, rfl⟩
theorem DK.trans {a b c : Heap} (x : DK a b) (y : DK b c) : DK a c := fun d o e => by
  obtain ⟨o', e', q⟩ := x d o e
  obtain ⟨o'', e'', q'⟩ := y d o' e'
  exact ⟨o'', e'', q'.trans q⟩
theorem DK.push (h : Heap) (o : Obj) : DK h (h.push o) := fun b o' e => by
  refine ⟨o', ?_, rfl⟩
  obtain ⟨hl, _⟩ := Array.getElem?_eq_some_iff.mp e
  have : b ≠ h.objs.size := Nat.ne_of_lt hl
  cases h; simpa [Heap.push, Array.getElem?_push, this] using e
theorem DK.update (h : Heap) (a : Addr) {f : Obj → Obj} (k : ∀ o, (f o).dict = o.dict) : DK h (h.update a f) := fun b o e => by
  by_cases q : a = b
  · subst q
    refine ⟨f o, ?_, k o⟩
    cases h; simp only [Heap.update, Array.getElem?_modify, if_true]; simp only at e; rw [e]; rfl
  · refine ⟨o, ?_, rfl⟩
    cases h; simp only [Heap.update, Array.getElem?_modify, q, if_false]; exact e
theorem DK.get {h h' : Heap} (x : DK h h') {b : Addr} {o o' : Obj} (e : h.get? b = some o) (e' : h'.get? b = some o') : o'.dict = o.dict := by
  obtain ⟨e1, _⟩ := Heap.get?_some_iff.mp e
  obtain ⟨e2, _⟩ := Heap.get?_some_iff.mp e'
  obtain ⟨o'', e3, q⟩ := x b o e1
  rw [e2] at e3
  cases e3; exact q
theorem DK.of_keeps {h h' : Heap} (k : ∀ (b : Nat) (o : Obj), h.objs[b]? = some o → h'.objs[b]? = some o) : DK h h' := fun b o e => ⟨o, k b o e, rfl⟩

theorem wp_nice {α : Type} {M : Model} {Γ : Ctx} {h₀ : Heap} {Q : α → Pos → Shared → Prop} {E : Value → Pos → Shared → Prop} : ∀ (t : Sem α) (p : Pos) (s : Shared), Nice t → DK h₀ s.heap → Sem.wp M Γ t Q E p s →
    Sem.wp M Γ t (fun a p' s' => Q a p' s' ∧ DK h₀ s'.heap) (fun e p' s' => E e p' s' ∧ DK h₀ s'.heap) p s := by
  intro t
  induction t with
  | pure a => intro p s n d h; exact ⟨h, d⟩
  | raise e => intro p s n d h; exact ⟨h, d⟩
  | unsupported w => intro p s n d h; exact h
  | finish e => intro p s n d h; exact h
  | rule t k ih => intro p s n d h; exact ih _ p s n d h
  | «at» p' k ih => intro p s n d h; exact ih _ _ s n d h
  | load a part k ih => intro p s n d h; obtain ⟨o, ho, hw⟩ := h; exact ⟨o, ho, ih o p s (n o) d hw⟩
  | update a part f k ih => intro p s n d h; exact ⟨h.1, ih _ p _ n.2 (d.trans (DK.update _ _ n.1)) h.2⟩
  | alloc o k ih => intro p s n d h; exact ih _ p _ (n _) (d.trans (DK.push _ _)) h
  | loadIfAlive a k ih => intro p s n d h; exact ih _ p s (n _) d h
  | point l k ih => intro p s n d h; exact ih _ p s n d h
  | register a k ih => intro p s n d h; exact h
  | fresh k ih => intro p s n d h; exact ih _ p _ (n _) d h
  | ask k ih => intro p s n d h; exact ih _ p s (n _) d h
  | choose src m k ih => intro p s n d h; exact ⟨h.1, ih _ p _ (n _) d h.2⟩
  | os q l k ih => intro p s n d h; exact ih _ p _ (n _) d h
  | call c hd g l k ih => intro p s n d h; exact n.elim
  | handled own k ih => intro p s n d h; exact ih _ p s (n _) d h
  | newGen c k ih => intro p s n d h; exact ih _ p _ (n _) d h
  | genState g k ih => intro p s n d h; obtain ⟨st, hs, hw⟩ := h; exact ⟨st, hs, ih _ p s (n _) d hw⟩
  | resume g r l k ih => intro p s n d h; exact n.elim
  | yield v g l k ih => intro p s n d h; exact n.elim
  | stack k ih => intro p s n d h; exact ih _ p s (n _) d h
  | fork c k ih => intro p s n d h; exact n.elim
  | thread k ih => intro p s n d h; exact ih _ p s (n _) d h
  | await a f dd l k ih => intro p s n d h; exact n.elim
theorem wpAny_nice {α : Type} {M : Model} {A : Around} {t : Sem α} {Q : α → Shared → Prop} {E : Value → Shared → Prop} {s : Shared} (n : Nice t) (h : wpAny M A t Q E s) :
    wpAny M A t (fun a s' => Q a s' ∧ DK s.heap s'.heap) (fun e s' => E e s' ∧ DK s.heap s'.heap) s :=
  fun Γ p hΓ => wp_nice t p s n (DK.refl _) (h Γ p hΓ)

theorem nice_unsupported {α : Type} {w : String} : Nice (unsupported w : Sem α) := trivial
theorem nice_fieldsOf (v : Value) : Nice (fieldsOf v) := by
  unfold fieldsOf
  split
  · refine .bind' (fun o => trivial) fun o => ?_
    split <;> trivial
  · trivial
theorem nice_field (v : Value) (i : Nat) : Nice (field v i) := by
  unfold field
  refine .bind' (nice_fieldsOf v) fun vs => ?_
  split <;> trivial
theorem dict_mapFields (f : Array Value → Array Value) (o : Obj) : (Obj.mapFields f o).dict = o.dict := by
  obtain ⟨c, d, dd, s⟩ := o
  cases dd <;> rfl
theorem nice_setField (v : Value) (i : Nat) (x : Value) : Nice (setField v i x) := by
  unfold setField
  split
  · unfold updateField
    refine .bind' (fun o => trivial) fun o => ?_
    split
    · split
      · exact ⟨dict_mapFields _, trivial⟩
      · trivial
    · trivial
  · trivial
theorem nice_setFlight (e : Value) (fr : Option Addr) : Nice (setFlight e fr) := by
  unfold setFlight
  refine .bind' (nice_field _ _) fun tb => ?_
  split
  · exact nice_setField _ _ _
  · trivial
theorem nice_stack : Nice stack := fun _ => trivial
theorem nice_readyFrames : ∀ l, Nice (readyFrames l)
  | [] => trivial
  | env :: outer => by
    unfold readyFrames
    split
    · refine .bind' (fun o => trivial) fun o => ?_
      split
      · trivial
      · refine .bind' ?_ fun imp => .bind' ?_ fun back => .bind' ⟨fun o => rfl, trivial⟩ fun _ => nice_readyFrames outer
        · unfold behindIsImport
          split
          · trivial
          · split
            · trivial
            · exact .bind' (nice_field _ _) fun _ => trivial
        · unfold keptBack
          split
          · split
            · trivial
            · unfold underTheClaimsCaller
              exact .bind' (.bind' nice_stack fun _ => trivial) fun _ => trivial
          · trivial
    · trivial
theorem nice_frameObject : ∀ l, Nice (frameObject l)
  | [] => trivial
  | env :: outer => .bind' (nice_readyFrames _) fun _ => trivial
theorem nice_frameOf (env : Env) : Nice (PySem.frameOf env) := by
  unfold PySem.frameOf frameEnvs
  refine .bind' (.bind' nice_stack fun _ => trivial) fun l => .bind' (nice_frameObject _) fun r => ?_
  split <;> trivial
theorem nice_entryPlaceOf (f : Addr) (b : Bool) : Nice (entryPlaceOf f b) := by
  unfold entryPlaceOf
  refine .bind' nice_stack fun acts => ?_
  split <;> trivial
theorem nice_newFields (ty : String) (vs : List Value) : Nice (newFields ty vs) := by
  unfold newFields newObj newObjAsIs
  dsimp only
  have al : Nice (alloc { cls := .type ty, dict := none, data := .fields vs.toArray }) := fun _ => trivial
  have tl : ∀ _ : Unit, Nice (do
    let a ← alloc { cls := .type ty, dict := none, data := .fields vs.toArray }
    pure (Value.ref a)) := fun _ => .bind' al fun _ => trivial
  split
  · trivial
  · exact tl ()
theorem nice_noteFrame (e : Value) (env : Env) : Nice (noteFrame e env) := by
  unfold noteFrame
  split
  · refine .bind' (nice_field _ _) fun head => ?_
    have tail : Nice (do setField e 1 (← EntryCells.newEntry head (← PySem.frameOf env) .none (rawInt ‹Addr›) .none (← entryPlaceOf ‹Addr› (head != .none)))) :=
      .bind' (nice_frameOf _) fun _ => .bind' (nice_entryPlaceOf _ _) fun _ => .bind' (nice_newFields _ _) fun _ => nice_setField _ _ _
    split
    · refine .bind' (nice_field _ _) fun x => ?_
      split
      · trivial
      · exact .bind' (nice_setField _ _ _) fun _ => tail
    · exact tail
  · trivial
theorem nice_leaving (env : Env) (e : Value) : Nice (leaving env e) := .bind' (nice_noteFrame _ _) fun _ => nice_setFlight _ _

noncomputable def bmE : List Value := [.type "Exception", .type "BaseException", .type "object"]
noncomputable abbrev excOf (dx : Option Addr) (t : Addr) : Obj := { cls := .ref 51, dict := dx, data := .fields #[.ref t, .none, .none, .none, .bool false, .none] }
section
variable {g : Gl}
inductive K51 (g : Gl) : Prop
  | mk (nm q : Str) (N : Addr) (bs : List Value) (hdct : Bool) (sn : List Str) (sub : List Value) (ab : Bool) (col : Option Bool) (dd : Option Addr) (k0 k1 k2 k3 k5 : Option Value) (h : g.K.lookup 51 = some (excClassObj nm q 51 N bs (.ref 31 :: bmE) hdct sn sub ab col dd k0 k1 k2 k3 k5 "Exception.__new__"))
theorem k51 (hg : HK g) : K51 g := ⟨_, _, _, _, _, _, _, _, _, _, _, _, _, _, _, by rw [hg]; rfl⟩
theorem t31 (hg : HK g) : tailIn g.K bmE (Value.ref 31 :: bmE) = true := by rw [hg]; kernel_rfl
theorem f48 (hg : HK g) : typeIn g.K (.ref 48) = some (.type "function") := by rw [hg]; kernel_rfl
theorem i48 (hg : HK g) : findIn g.K (.ref 51) "__init__" = some (some (.ref 48)) := by rw [hg]; kernel_rfl
theorem refuse_E (self : Value) : refuseLoop self "__setattr__" (.ref 51 :: .ref 31 :: bmE) = pure () := by
  rw [refuseLoop_ref, refuseLoop_ref]
  kernel_rfl
theorem cls51 (hg : HK g) : ∃ cd, clsIn g.K 51 = some cd ∧ cd.mro = .ref 51 :: .ref 31 :: bmE ∧ cd.hasDict = true := by
  rw [hg]; exact ⟨_, rfl, rfl, rfl⟩
theorem fm51 (hg : HK g) : findIn g.K (.ref 51) "message" = some none := by rw [hg]; kernel_rfl
theorem fs51 (hg : HK g) : findIn g.K (.ref 51) "__setattr__" = some (some (.builtin "object.__setattr__")) := by rw [hg]; kernel_rfl
end

section
variable {g : Gl} {A : Around} {E : Value → Shared → Prop} {h : Heap} {tk : Nat} {x t0 : Addr} {msg : Str} {tm : Tok}
theorem exc_at (hx : h.get? x = some (excOf none t0)) : InstAt h x (excOf none t0) 51 none := ⟨hx, rfl, rfl, trivial⟩
theorem set_exc (hg : HK g) (X : g.K.In h) (hx : h.get? x = some (excOf none t0)) {v : Value} {Q : Unit → Shared → Prop}
    (k : ∀ h' d tk' tk'' hs n, (∀ b o, b ≠ x → h.get? b = some o → h'.get? b = some o) → h'.get? x = some (excOf (some d) t0) → h'.get? d = some (dictOf [⟨hs, .str "message" tk', v⟩] n) → h.get? d = none → Q () (g.mk' h' tk'')) :
    wpAny (model g.prog g.w) A (setAttr (.ref x) "message" v) Q E (g.mk' h tk) := by
  have I := exc_at hx
  refine set_plain (s := g.mk' h tk) X I (fs51 hg) ?_
  have SF := PySem.F.store_object
  obtain ⟨cd, hc, hm, hd⟩ := cls51 hg
  have sub : Looks (model g.prog g.w) h (isInstance (.ref x) (.type "object")) true := I.type.andThen (looks_mroIn X (by unfold mroIn; rw [hc, Option.bind_some, hm]; rfl))
  refine codeAny_call_builtin SF.slot.plain SF.entry (@check_slot (model g.prog g.w) _ _ _ "object.__setattr__" "object" "__setattr__" (.ref x) [.str "message" (g.mk' h tk).toks, v] [] _ SF.kind SF.split sub (SF.args (.ref x) (.str "message" _) v) ?_)
  have hmr : Looks (model g.prog g.w) h (mroOf (.ref 51)) cd.mro := (looks_clsIn X hc).andThen .now
  rw [osa_eq, refuse_eq]
  refine wpAny_bind (wpAny_bind (I.type.here (wpAny_bind (hmr.here ?_))))
  rw [hm, refuse_E]
  refine wpAny_pure (wpAny_bind (I.type.here (wpAny_bind ((looks_findIn X (fm51 hg)).here (wpAny_bind (wpAny_pure ?_))))))
  refine wpAny_bind (wpAny_pure (wpAny_bind ?_))
  refine wpAny_bind (wpAny_loadPart hx (wpAny_bind ((looks_clsIn X hc).here ?_)))
  rw [hd]
  let D : Obj := { cls := .type "dict", data := .dict #[] }
  let f : Obj → Obj := fun o => { o with dict := some h.objs.size }
  have hxd : x ≠ h.objs.size := Nat.ne_of_lt (Heap.lt_size hx)
  have h1 : (h.push D).get? x = some (excOf none t0) := Heap.get?_push_of_some _ hx
  have h2 : ((h.push D).update x f).get? x = some (excOf (some h.objs.size) t0) := Heap.get?_update_self f h1 rfl
  have h3 : ((h.push D).update x f).get? h.objs.size = some D := (Heap.get?_update_other _ f hxd).trans (Heap.get?_push_size h rfl)
  refine wpAny_bind (wpAny_alloc (wpAny_bind (wpAny_update h1 (wpAny_pure ?_))))
  refine wpAny_bind (wpAny_pure (wpAny_bind ?_))
  unfold nsSet
  refine wpAny_bind (wpAny_bind (wpAny_askSetting (wpAny_pure (wpAny_bind (wpAny_mkText (wpAny_bind (wpAny_loadPart h3 ?_)))))))
  have hif : aRefKeyMayBeTheName ("message" : Str) (#[] : Array DictEntry) = false := by rw [aRefKeyMayBeTheName_at]; simp
  change wpAny _ _ (if aRefKeyMayBeTheName ("message" : Str) (#[] : Array DictEntry) = true then _ else _) _ _ _
  rw [hif, if_neg (by decide)]
  refine wpAny_updatePart h3 ?_
  let o' : Obj := dictOf (putL "message" (PyData.keyHash g.w.params "message") (.str "message" (tk + 1)) v []) (putN "message" [] 0)
  have ho' : Obj.putName "message" (PyData.keyHash g.w.params "message") (.str "message" (tk + 1)) v D = o' := putName_dict _ _ _ _ [] 0
  let H := ((h.push D).update x f).update h.objs.size (Obj.putName "message" (PyData.keyHash g.w.params "message") (.str "message" (tk + 1)) v)
  have h4 : H.get? h.objs.size = some o' := (Heap.get?_update_self _ h3 (by rw [ho']; rfl)).trans (by rw [ho'])
  have h5 : H.get? x = some (excOf (some h.objs.size) t0) := (Heap.get?_update_other _ _ (Ne.symm hxd)).trans h2
  refine wpAny_bind (wpAny_lookBehind h4 (by rfl) ?_)
  refine wpAny_pure (k H h.objs.size _ _ _ _ (fun b o hb e => ?_) h5 h4 (push_new h))
  have hbd : b ≠ h.objs.size := Nat.ne_of_lt (Heap.lt_size e)
  exact ((Heap.get?_update_other _ _ (Ne.symm hbd)).trans (Heap.get?_update_other _ f (Ne.symm hb))).trans (Heap.get?_push_of_some _ e)
end

section
variable {g : Gl}
theorem fg51 (hg : HK g) : findIn g.K (.ref 51) "__getattribute__" = some (some (.builtin "BaseException.__getattribute__")) := by rw [hg]; kernel_rfl
theorem fh51 (hg : HK g) : findIn g.K (.ref 51) "__getattr__" = some none := by rw [hg]; kernel_rfl
end
section
variable {g : Gl} {A : Around} {E : Value → Shared → Prop} {h : Heap} {tk : Nat} {x d t0 : Addr} {msg : Str} {tm : Tok} {ox : Obj} {od : Obj} {expr : Bool}
theorem find_exc (hg : HK g) {v : Value} (hl : lookIn "message" od = some (some v)) : findObj g.K 51 (some od) "message" = some (.value v) := by
  obtain ⟨cd, hc, hm, hd⟩ := cls51 hg
  unfold findObj
  rw [hc, Option.bind_some, fm51 hg, Option.bind_some]
  have ho : PySem.W.ownOf cd (some od) "message" = some (some v) := by unfold PySem.W.ownOf; rw [if_pos hd]; exact hl
  simp [ho]
theorem get_exc (hg : HK g) (X : g.K.In h) (I : InstAt h x ox 51 (some od)) {v : Value} (hl : lookIn "message" od = some (some v)) (hv : handedIn v = true) {Q : Value → Shared → Prop} (k : Q v (g.mk' h (tk + 1))) :
    wpAny (model g.prog g.w) A (getAttr (.ref x) "message" expr) Q E (g.mk' h tk) := by
  have L0 := I.type (M := model g.prog g.w)
  have L1 := looks_findIn (M := model g.prog g.w) X (fg51 hg)
  have L2 := looks_findIn (M := model g.prog g.w) X (fh51 hg)
  have L3 := looks_find (M := model g.prog g.w) X I (find_exc hg hl)
  unfold getAttr getAttrBy
  refine wpAny_bind (wpAny_mkText (wpAny_holding (wpAny_bind (L0.at (wpAny_bind (L1.at ?_))))))
  show wpAny _ _ (getAttrByItsOwn _ _ _ _ _ _) _ _ _
  unfold getAttrByItsOwn hookBefore
  show wpAny _ _ ((typeLookup (.ref 51) "__getattr__") >>= _) _ _ _
  refine wpAny_bind (L2.at (wpAny_bind ?_))
  have FB := PySem.F.attr_Exception
  have sub : Looks (model g.prog g.w) h (isInstance (.ref x) (.type "BaseException")) true := by
    obtain ⟨cd, hc, hm, hd⟩ := cls51 hg
    exact I.type.andThen (looks_mroIn X (by unfold mroIn; rw [hc, Option.bind_some, hm]; rfl))
  have hcg : ∀ nv, callGetattribute (.ref x) nv (.builtin "BaseException.__getattribute__") expr = boundAndCalled (.builtin "BaseException.__getattribute__") (.ref x) nv := fun nv => by cases expr <;> rfl
  rw [hcg]
  refine wpAny_attempt (wpAny_holding ?_)
  unfold boundAndCalled
  rw [FB.ga.bind]
  refine wpAny_bind (wpAny_pure ?_)
  refine wpAny_call (codeAny_call_builtin FB.ga.plain PySem.F.entry_bexc_ga (@check_slot (model g.prog g.w) _ _ _ "BaseException.__getattribute__" "BaseException" "__getattribute__" (.ref x) [.str "message" tk] [] _ (by decide +kernel) (by decide +kernel) sub (PySem.F.args_bexc_ga (.ref x) (.str "message" tk)) ?_))
  unfold Builtin.«object.__getattribute__»
  have hsa : ∀ b : Value, slotArgs "__getattribute__" 1 { pos := [Value.ref x] ++ [b] } = pure (.ref x, [b]) := fun b => rfl
  rw [hsa]
  refine wpAny_bind (wpAny_pure (wpAny_bind (wpAny_pure (wpAny_bind (L0.at (wpAny_bind (L3.at (wpAny_pure ?_))))))))
  show wpAny _ _ (handedOut v) _ _ _
  rw [handedOut_of hv]
  exact wpAny_pure k
end

section
variable {g : Gl} {A : Around} {E : Value → Shared → Prop} {h : Heap} {tk : Nat}
/-- Refusal(..): the object is made, its own __init__ is called -/
theorem refusal_open (hg : HK g) (X : g.K.In h) {args : List Value} (hz : args.length ≤ sizeLine) {Q : Value → Shared → Prop}
    (k : wpAny (model g.prog g.w) (A.under (.builtin "type.__call__" ⟨.ref 51 :: args, []⟩)) (call (.ref 48) (.ref (h.objs.size + 1) :: args)) (fun v s' => v = .none ∧ Q (.ref (h.objs.size + 1)) s') E
      (g.mk' ((h.push { cls := .type "tuple", data := .seq args.toArray }).push (excOf none h.objs.size)) tk)) :
    wpAny (model g.prog g.w) A (call (.ref 51) args) Q E (g.mk' h tk) := by
  obtain ⟨nm, q, N, bs, hdct, sn, sub, ab, col, dd, k0, k1, k2, k3, k5, hK⟩ := k51 hg
  have hC := X _ _ hK
  have F := PySem.F.excBase_Exception
  have T : OwnTail h bmE (.ref 31 :: bmE) := tail_of_in X (t31 hg)
  have f1 := tc_lookup
  have f2 := tc_bind (.ref 51)
  have hT : (g.mk' h tk).TypeIs (.ref 51) "type" := ⟨_, hC, rfl⟩
  refine wpAny_call (codeAny_of_tree ?_)
  show wpAny _ _ (callAny (.ref 51) _) _ _ _
  repeat (any_goals (first | assumption | with_reducible refine wpAny_loadPart_at hC ?_ | wp_step))
  refine ⟨rfl, ?_⟩
  refine codeAny_call_builtin_at (Code.quiet_builtin _ (by decide +kernel)) entry_typeCall (wpAny_check_type_call_sub hC ?_)
  repeat (first | with_reducible refine wpAny_loadPart_at hC ?_ | with_reducible refine wpAny_madeBy_exc hC ?_ | wp_step)
  refine codeAny_call_builtin_code (Code.quiet_builtin _ F.quiet) (wpAny_check_new_subU F F.hasB T hC ?_)
  refine codeAny_exc_new_subU F F.hasB F T hC ?_ hz
  show wpAny _ _ _ _ _ _
  have kk : ∀ b o, h.get? b = some o → ((h.push { cls := .type "tuple", data := .seq args.toArray }).push (excOf none h.objs.size)).get? b = some o := fun b o e => Heap.get?_push_of_some _ (Heap.get?_push_of_some _ e)
  have hC₁ := kk _ _ hC
  have hget : ((h.push { cls := .type "tuple", data := .seq args.toArray }).push (excOf none h.objs.size)).get? (h.objs.size + 1) = some (excOf none h.objs.size) := by heap_get
  have hcC : (Value.ref 51 :: .ref 31 :: bmE).contains (.ref 51) = true := by rfl
  unfold isInstance
  repeat (first | with_reducible refine wpAny_loadPart_at hget ?_ | wp_step)
  refine wpAny_isSubtype_exc hC₁ ?_
  rw [hcC, if_neg (by decide)]
  have X' : g.K.In ((h.push { cls := .type "tuple", data := .seq args.toArray }).push (excOf none h.objs.size)) := X.keeps kk
  refine wpAny_bind (wpAny_holding (special_fn X' (exc_at hget) (i48 hg) (f48 hg) ?_))
  refine wpAny_mono k (fun v s' z => ?_) fun _ _ z => z
  obtain ⟨rfl, z⟩ := z
  exact wpAny_pure z
end

theorem ledger_y1 {kd Cs Y : Led} {Z : Fz} {W : List Ent} (q : Addr × Obj) : ledger kd Cs (q :: Y) Z W = (kd ++ Cs) ++ q :: (Y ++ (Z.z ++ (Z.d ++ led W))) := by unfold ledger; simp
section
variable {g : Gl} {C : Cx} {σ : St} {n : Nat} {Y : Led} {Z : Fz} {W : List Ent} {h : Heap} {mF : Str → Option Value} {kd Cs : Led} {E : Value → Shared → Prop} {tk : Nat}

/-- what a made Refusal leaves on the ledger -/
noncomputable def excLed (e d t0 : Addr) (hs : Int) (tk : Tok) (m : Nat) (msg : Str) (t : Tok) : Led := [(e, excOf (some d) t0), (t0, tupOf #[.str msg t] 0), (d, dictOf [⟨hs, .str "message" tk, .str msg t⟩] m)]

inductive RefInit (g : Gl) : Prop
  | mk (oc : Value) (od : Option Addr) (osl : Array (Option Value)) (name qual : Str) (params : Arguments) (body : List Stmt) (scope : Scope) (dV kV doc pm : Value) (an : Option Addr) (cdv ct : Value)
    (ho : g.K.lookup 48 = some ⟨oc, od, .func (fnOf name qual params body scope dV kV doc pm an cdv ct), osl⟩) (hcd : codeIn g.K cdv qual = true) (hco : scope.isCoroutine = false) (hgen : scope.isGenerator = false) (hk : scope.kind = .function)
    (hcell : ∀ x ∈ scope.names, x.2 ≠ .cell) (hb : ∀ a b, bindArgs (fnOf name qual params body scope dV kV doc pm an cdv ct) ⟨[a, b], []⟩ = pure [(("self" : Str), a), (("message" : Str), b)])
    (hs1 : scope.names.lookup ("self" : Str) = some NameKind.local) (hs2 : scope.names.lookup ("message" : Str) = some NameKind.local) (p1 p2 p3 p4 : Pos) (hbody : body = [.Assign [.Attribute (.Name "self" p1) "message" p2] (.Name "message" p3) p4])
theorem ref_init (hg : HK g) : RefInit g :=
  ⟨_, _, _, _, _, _, _, _, _, _, _, _, _, _, _, by rw [hg]; rfl, by rw [hg]; kernel_rfl, rfl, rfl, rfl, by decide, fun _ _ => rfl, rfl, rfl, _, _, _, _, rfl⟩
theorem mk_refusal (hg : HK g) (ok : Ok g C (n + 1)) (r : RelM g C Y Z W σ h mF kd Cs) {msg : Str} {t : Tok} {Q : Value → Shared → Prop}
    (k : ∀ e d t0 hs tk₁ m h' tk', RelM g C (excLed e d t0 hs tk₁ m msg t ++ Y) Z W σ h' mF kd Cs → Q (.ref e) (g.mk' h' tk')) :
    wpAny (model g.prog g.w) C.A (call (.ref 51) [.str msg t]) Q E (g.mk' h tk) := by
  have X : g.K.In h := ok.X.keeps r.fr.keep
  refine refusal_open hg X (by show 1 ≤ sizeLine; decide) ?_
  let tp : Obj := { cls := .type "tuple", data := .seq [Value.str msg t].toArray }
  have r₁ : RelM g C ((h.objs.size, tp) :: Y) Z W σ (h.push tp) mF kd Cs := r.newY (push_keeps h tp) (push_new h) (Heap.get?_push_size h rfl)
  have r₂ : RelM g C ((h.objs.size + 1, excOf none h.objs.size) :: (h.objs.size, tp) :: Y) Z W σ ((h.push tp).push (excOf none h.objs.size)) mF kd Cs := by
    have := r₁.newY (push_keeps (h.push tp) (excOf none h.objs.size)) (push_new _) (Heap.get?_push_size _ rfl)
    rwa [Heap.size_push] at this
  have rd := ok.rd
  have ru := ok.ru
  obtain ⟨oc, od, osl, name, qual, params, body, scope, dV, kV, doc, pm, an, cdv, ct, ho, hcd, hco, hgen, hk, hcell, hb, hs1, hs2, p1, p2, p3, p4, hbody⟩ := ref_init hg
  let A' := C.A.under (.builtin "type.__call__" ⟨[.ref 51, .str msg t], []⟩)
  have hA : A'.frames = some (C.fenv :: C.outer) := (congrArg (pushEnvs []) ok.fr).trans rfl
  have X₂ : g.K.In ((h.push tp).push (excOf none h.objs.size)) := ok.X.keeps r₂.fr.keep
  refine wpAny_call (callX_plain (cl := []) (s := g.mk' ((h.push tp).push (excOf none h.objs.size)) tk) (m := mF) (A := A') ok.B r₂.fr r₂.nw ok.T.nolimit hA ok.fL ok.fk (X₂ _ _ ho) rfl (codeRec_of X₂ hcd)
    (by show C.A.depth + 1 < recursionLimit; omega) (BindsTo.of_eq (hb _ _)) (fun y hy => ?_) (fun gg L' h₁ FG F' N' BG st l => ?_) hcell hco hgen hk)
  · rcases List.mem_cons.mp hy with rfl | hy
    · exact hs1
    · rcases List.mem_cons.mp hy with rfl | hy
      · exact hs2
      · cases hy
  subst hbody
  have he := N' (h.objs.size + 1, excOf none h.objs.size) (by rw [ledger_y1]; simp)
  have X₃ : g.K.In h₁ := (ok.X.keeps st).keeps F'.keep
  refine wpAny_execs_cons (plainObj_wpAny_Assign_Attribute (wpAny_Name (wpAny_loadName_local (env := envX qual scope L' 48 cdv []) hk hs2 F'.ns (v := .str msg t) rfl
    (wpAny_Name (wpAny_loadName_local (env := envX qual scope L' 48 cdv []) hk hs1 F'.ns (v := .ref (h.objs.size + 1)) rfl ?_) (by decide))) (by decide)) rfl)
  refine set_exc hg X₃ he.1 fun h' d tk' tk'' hs m s1 s2 s3 s4 => ?_
  refine wpAny_execs_nil ?_
  have hd : ∀ p ∈ ledger kd Cs ((h.objs.size + 1, excOf none h.objs.size) :: (h.objs.size, tp) :: Y) Z W, p.1 ≠ d := fun p hp q => by
    have := (N' p hp).1
    rw [q, s4] at this; cases this
  have pm : (ledger kd Cs (excLed (h.objs.size + 1) d h.objs.size hs tk' m msg t ++ Y) Z W).Perm ((d, dictOf [⟨hs, .str "message" tk', .str msg t⟩] m) :: ledger kd Cs ((h.objs.size + 1, excOf (some d) h.objs.size) :: (h.objs.size, tp) :: Y) Z W) := by
    unfold excLed
    refine List.Perm.trans ?_ (ledger_y _)
    unfold ledger
    refine List.Perm.append_left kd (List.Perm.append_left Cs (List.Perm.append_right _ ?_))
    exact ((List.Perm.swap _ _ _).cons _).trans (List.Perm.swap _ _ _)
  have mem : ∀ q ∈ ledger kd Cs (excLed (h.objs.size + 1) d h.objs.size hs tk' m msg t ++ Y) Z W, q = (h.objs.size + 1, excOf (some d) h.objs.size) ∨ q = (d, dictOf [⟨hs, .str "message" tk', .str msg t⟩] m) ∨ (q ∈ ledger kd Cs ((h.objs.size, tp) :: Y) Z W) := fun q hq => by
    rcases List.mem_cons.mp (pm.mem_iff.mp hq) with e | hq
    · exact .inr (.inl e)
    · exact (List.mem_cons.mp ((ledger_y _).mem_iff.mp hq)).imp id .inr
  have hh := r₂.headY
  have FF : Fr gg L' h' _ := fr_ext F' (fun b o hb e => s1 b o hb e) he.2.1 he.2.2
  have NN : News gg L' h' (ledger kd Cs (excLed (h.objs.size + 1) d h.objs.size hs tk' m msg t ++ Y) Z W) := by
    intro q hq
    rcases mem q hq with rfl | rfl | hq
    · exact ⟨s2, he.2⟩
    · refine ⟨s3, fun e => ?_, ?_⟩
      · obtain ⟨oL, _, _, hL, _⟩ := F'.ns
        have e : d = L' := e
        rw [e] at s4; rw [s4] at hL; cases hL
      · cases q : gg.get? d with
        | none => rfl
        | some o => have := F'.keep _ _ q; rw [s4] at this; cases this
    · have hq' : q ∈ ledger kd Cs ((h.objs.size + 1, excOf none h.objs.size) :: (h.objs.size, tp) :: Y) Z W := (ledger_y _).symm.mem_iff.mp (.tail _ hq)
      have z := N' q hq'
      exact ⟨s1 _ _ (hh.2.2.2 q hq) z.1, z.2⟩
  refine leaveK_ (s' := g.mk' h' tk'') FF NN fun F₃ N₃ => ⟨rfl, k _ _ _ _ _ _ h' tk'' ⟨F₃, N₃, ?_, r.lo, r.or⟩⟩
  rw [(pm.map (·.1)).nodup_iff, List.map_cons, List.nodup_cons]
  have e0 : (ledger kd Cs ((h.objs.size + 1, excOf (some d) h.objs.size) :: (h.objs.size, tp) :: Y) Z W).map (·.1) = (ledger kd Cs ((h.objs.size + 1, excOf none h.objs.size) :: (h.objs.size, tp) :: Y) Z W).map (·.1) := by
    unfold ledger; simp
  rw [e0]
  refine ⟨fun hm => ?_, r₂.nd⟩
  obtain ⟨p, hp, e⟩ := List.mem_map.mp hm
  exact hd p hp e
end

/-- a Refusal raised in this very frame -/
inductive XFp (g : Gl) (C : Cx) (P : Str → Prop) (Y : Led) (Z : Fz) (e : Value) (s : Shared) : Prop
  | mk (ea d t0 : Addr) (hs : Int) (tk₁ : Tok) (m : Nat) (msg : Str) (t : Tok) (Z' : Fz) (W : List Ent) (σ : St) (h : Heap) (tk' : Nat) (mF : Str → Option Value) (kd Cs : Led) (h1 : e = .ref ea) (h2 : s = g.mk' h tk') (h3 : P msg) (h4 : FLe Z Z') (h5 : RelM g C (excLed ea d t0 hs tk₁ m msg t ++ Y) Z' W σ h mF kd Cs)
noncomputable def XF (g : Gl) (C : Cx) (P : Str → Prop) : XC where
  p := XFp g C P
  mono := by
    rintro Y Z Z₁ e s f ⟨ea, d, t0, hs, tk₁, m, msg, t, Z', W, σ, h, tk', mF, kd, Cs, h1, h2, h3, h4, h5⟩
    exact ⟨ea, d, t0, hs, tk₁, m, msg, t, Z', W, σ, h, tk', mF, kd, Cs, h1, h2, h3, f.trans h4, h5⟩

section
variable {g : Gl} {C : Cx} {X : XC} {σ : St} {n : Nat}
theorem excLed_mem {e d t0 : Addr} {hs : Int} {tk : Tok} {m : Nat} {msg : Str} {t : Tok} {kd Cs Y : Led} {Z : Fz} {W : List Ent} : (e, excOf (some d) t0) ∈ ledger kd Cs (excLed e d t0 hs tk m msg t ++ Y) Z W := by
  unfold ledger excLed; simp
theorem X_raise (hg : HK g) (ok : Ok g C (n + 1)) {arg : Expr} {p1 p2 p3 : Pos} {P : Str → Prop} {Q : AF → St → Prop}
    (h : AW g C XC.no (eval (.Name "Refusal" p1) C.env) (fun f σ₁ => f = .cst (.ref 51) ∧ AWs g C XC.no (spliced (backTo p2 (starEach [arg] C.env))) (fun xs _ => ∃ msg, xs = [.str msg] ∧ P msg) σ₁) σ)
    (he : eval (.Call (.Name "Refusal" p1) [arg] [] p2) C.env = (do callWith p2 (← eval (.Name "Refusal" p1) C.env) [] (backTo p2 (starEach [arg] C.env)) (backToKw p2 (keywordEach [] C.env))) := by rfl)
    (hp : (backTo p2 (starEach [arg] C.env)).any (·.1) = false := by rfl) :
    AX g C (XF g C P) (exec (.Raise (some (.Call (.Name "Refusal" p1) [arg] [] p2)) none p3) C.env) Q σ := by
  intro Y Z W hh tk r Qc Ec q e
  rw [arm_exec_Raise]
  refine wpAny_bind (wpAny_standAt ?_)
  obtain ⟨nm, qn, N, bs, hdct, sn, sub, ab, col, dd, k0, k1, k2, k3, k5, hK⟩ := k51 hg
  have hcB : (Value.ref 51 :: .ref 31 :: bmE).contains (.type "BaseException") = true := by rfl
  show wpAny _ _ (raiseStmt C.env (some (do let v ← eval (.Call (.Name "Refusal" p1) [arg] [] p2) C.env; standAt p3; pure v)) none) _ _ _
  unfold raiseStmt
  refine wpAny_bind (wpAny_bind ?_)
  rw [he]
  refine wpAny_bind (h Y Z W hh tk r _ Ec (fun a σ₁ v₁ Z₁ W₁ h₁ t₁ p₁ r₁ f₁ w₁ x₁ => ?_) fun _ _ z => z.elim)
  obtain ⟨rfl, p₁⟩ := p₁
  cases vr_cst x₁
  refine callWith_of (P := g.K.In) (by rw [hp]; rfl) (fun h X => (gi_Refusal hg).kp.looks h X) (evalArgs_sp hp ?_)
  refine p₁ Y Z₁ W₁ h₁ t₁ r₁ _ Ec (fun b σ₂ v₂ Z₂ W₂ h₂ t₂ p₂ r₂ f₂ w₂ x₂ => ⟨r₂.inK ok, ?_⟩) fun _ _ z => z.elim
  obtain ⟨msg, rfl, hP⟩ := p₂
  obtain ⟨v, rfl, hv⟩ := vrs1 x₂
  obtain ⟨t, rfl⟩ := vr_str hv
  obtain ⟨mF, kd, Cs, r₂⟩ := r₂
  refine mk_refusal hg ok r₂ fun ea d t0 hs tk₁ m h' tk' r' => ?_
  refine wpAny_bind (wpAny_standAt (wpAny_pure ?_))
  have he' := (r'.nw _ excLed_mem).1
  have hC := (ok.X.keeps r'.fr.keep) _ _ hK
  have fin : Ec (.ref ea) (g.mk' h' tk') := e _ _ ⟨ea, d, t0, hs, tk₁, m, msg, t, Z₂, W₂, σ₂, h', tk', mF, kd, Cs, rfl, rfl, hP, f₁.trans f₂, r'⟩
  unfold Gl.mk' at fin ⊢
  repeat (first | with_reducible refine wpAny_loadPart_at he' ?_ | with_reducible refine wpAny_loadPart_at hC ?_ | (with_reducible refine wpAny_isSubtype_exc hC ?_; rw [hcB]) | wp_step)
  exact wpAny_raiseNew_none ok.hh fin
end

/-- a Refusal that came out of a callee, seen in the frame C -/
structure Fly (C : Cx) (mF : Str → Option Value) (ea d t0 : Addr) (news : Led) (h : Heap) : Prop where
  fw : ∃ B, C.base.StaysIn B ∧ (∀ q ∈ news, B.get? q.1 = some q.2) ∧ Heap.FlyingW B (C.fenv :: C.outer) ea (.ref 51) (.ref t0) h
  dk : ∃ oe, h.get? ea = some oe ∧ oe.dict = some d
  up : ∃ gg, Fr C.h₀ C.L gg mF ∧ gg.UpToSlots h
  nw : ∀ q ∈ news, q.1 ≠ C.L ∧ C.h₀.get? q.1 = none
  nd : (news.map (·.1)).Nodup
noncomputable abbrev msgDict (hs : Int) (tk : Tok) (m : Nat) (msg : Str) (t : Tok) : Obj := dictOf [⟨hs, .str "message" tk, .str msg t⟩] m
inductive XRp (g : Gl) (C : Cx) (P : Str → St → Prop) (Y : Led) (Z : Fz) (e : Value) (s : Shared) : Prop
  | mk (ea d t0 : Addr) (hs : Int) (tk₁ : Tok) (m : Nat) (msg : Str) (t : Tok) (Z' : Fz) (W : List Ent) (σ : St) (h : Heap) (tk' : Nat) (mF : Str → Option Value) (kd Cs : Led) (h1 : e = .ref ea) (h2 : s = g.mk' h tk') (h3 : P msg σ) (h4 : FLe Z Z') (h5 : Fly C mF ea d t0 ((d, msgDict hs tk₁ m msg t) :: ledger kd Cs Y Z' W) h) (h6 : Loc g C Z' (adr W) mF kd Cs σ.loc) (h7 : ORs g Z' (adr W) σ.heap W)
noncomputable def XR (g : Gl) (C : Cx) (P : Str → St → Prop) : XC where
  p := XRp g C P
  mono := by
    rintro Y Z Z₁ e s f ⟨ea, d, t0, hs, tk₁, m, msg, t, Z', W, σ, h, tk', mF, kd, Cs, h1, h2, h3, h4, h5, h6, h7⟩
    exact ⟨ea, d, t0, hs, tk₁, m, msg, t, Z', W, σ, h, tk', mF, kd, Cs, h1, h2, h3, f.trans h4, h5, h6, h7⟩

section
variable {g : Gl} {C C' : Cx} {n : Nat} {h : Heap} {mF mF' : Str → Option Value} {E : Value → Shared → Prop} {tk : Nat} {ea d t0 : Addr} {news news' : Led}

/-- the callee's frame C' stands on C -/
structure On (C' C : Cx) (mF : Str → Option Value) : Prop where
  ou : C'.outer = C.fenv :: C.outer
  ba : C'.base = C.base
  fg : Fr C.h₀ C.L C'.h₀ mF

theorem leave_fly (ok' : Ok g C' n) (on : On C' C mF) (F : Fly C' mF' ea d t0 news' h) (hs : ∀ q ∈ news, q ∈ news') (nd : (news.map (·.1)).Nodup) {Q : Unit → Shared → Prop} (k : ∀ h', Fly C mF ea d t0 news h' → Q () (g.mk' h' tk)) :
    wpAny (model g.prog g.w) C'.A (leaving C'.fenv (.ref ea)) Q E (g.mk' h tk) := by
  obtain ⟨B, b1, b2, b3⟩ := F.fw
  refine wpAny_mono (wpAny_nice (nice_leaving _ _) (wpAny_leaves_onW (Q := fun _ s' => ∃ h', s' = g.mk' h' tk ∧ Heap.FlyingW B C'.outer ea (.ref 51) (.ref t0) h' ∧ h.UpToSlots h') (E := fun _ _ => False) ok'.fr ok'.fL b3 fun h' x1 x2 => ⟨h', rfl, x1, x2⟩)) ?_ (fun _ _ z => z.1.elim)
  rintro _ s' ⟨⟨h', rfl, x1, x2⟩, dk⟩
  obtain ⟨oe, o1, o2⟩ := F.dk
  obtain ⟨oe', o3, _⟩ := x1.there
  obtain ⟨gg, f1, f2⟩ := F.up
  refine k h' ⟨⟨B, by rw [← on.ba]; exact b1, fun q hq => b2 q (hs q hq), by rw [← on.ou]; exact x1⟩, ⟨oe', o3, (dk.get o1 o3).trans o2⟩, ⟨C'.h₀, on.fg, ((Heap.UpToSlots.of_keeps f1.keep).trans f2).trans x2⟩, fun q hq => ?_, nd⟩
  obtain ⟨n1, n2⟩ := F.nw q (hs q hq)
  refine ⟨fun e => ?_, ?_⟩
  · obtain ⟨oL, _, _, hL, _⟩ := on.fg.ns
    rw [e, hL] at n2; cases n2
  · cases z : C.h₀.get? q.1 with
    | none => rfl
    | some o => have := on.fg.keep _ _ z; rw [n2] at this; cases this
theorem leave_fresh (ok' : Ok g C' n) (on : On C' C mF) {hs : Int} {tk₁ : Tok} {m : Nat} {msg : Str} {t : Tok} {Y' : Led} {Z' : Fz} {W' : List Ent} {σ' : St} {kd' Cs' : Led} (r : RelM g C' (excLed ea d t0 hs tk₁ m msg t ++ Y') Z' W' σ' h mF' kd' Cs')
    (hsub : ∀ q ∈ news, q = (d, msgDict hs tk₁ m msg t) ∨ q ∈ ledger kd' Cs' Y' Z' W') (nd : (news.map (·.1)).Nodup) {Q : Unit → Shared → Prop} (k : ∀ h', Fly C mF ea d t0 news h' → Q () (g.mk' h' tk)) :
    wpAny (model g.prog g.w) C'.A (leaving C'.fenv (.ref ea)) Q E (g.mk' h tk) := by
  have he := r.nw _ excLed_mem
  -- the frames stand in h
  have F1 : h.FunFrames C'.base (C'.fenv :: C'.outer) := by
    refine .cons (by rw [ok'.fk]; decide) ok'.fL r.fr.ns ?_ (ok'.B.frames.of_keeps fun b o e _ => ⟨o, r.fr.keep b o e, rfl⟩)
    cases q : C'.base.get? C'.L with
    | none => rfl
    | some o => exact absurd (Nat.lt_of_lt_of_le (Heap.lt_size (ok'.B.stays _ _ q)) r.fr.above) (Nat.lt_irrefl _)
  let as := ea :: (C'.fenv :: C'.outer).filterMap (·.frame)
  have hin : ∀ env ∈ C'.fenv :: C'.outer, ∀ a, env.frame = some a → a ∈ as := fun env he a ha => .tail _ (List.mem_filterMap.mpr ⟨env, he, ha⟩)
  have F2 := funFrames_hide (as := as) F1 hin
  have nl : ∀ q ∈ news, q ∈ ledger kd' Cs' (excLed ea d t0 hs tk₁ m msg t ++ Y') Z' W' ∧ q.1 ≠ ea := by
    have pm : (ledger kd' Cs' (excLed ea d t0 hs tk₁ m msg t ++ Y') Z' W').Perm ((ea, excOf (some d) t0) :: (t0, tupOf #[.str msg t] 0) :: (d, msgDict hs tk₁ m msg t) :: ledger kd' Cs' Y' Z' W') :=
      (ledger_y _).trans (((ledger_y _).trans ((ledger_y _).cons _)).cons _)
    have nd' := (pm.map (·.1)).nodup_iff.mp r.nd
    rw [List.map_cons, List.nodup_cons] at nd'
    intro q hq
    have hm : q ∈ (t0, tupOf #[.str msg t] 0) :: (d, msgDict hs tk₁ m msg t) :: ledger kd' Cs' Y' Z' W' := by
      rcases hsub q hq with rfl | z
      · exact .tail _ (.head _)
      · exact .tail _ (.tail _ z)
    exact ⟨pm.symm.mem_iff.mp (.tail _ hm), fun e => nd'.1 (List.mem_map.mpr ⟨q, hm, e⟩)⟩
  refine wpAny_mono (wpAny_nice (nice_leaving _ _) (wpAny_leaving_firstW (base := hideAll h as) (s := g.mk' h tk) (oe := excOf (some d) t0) (Q := fun _ s' => ∃ h', s' = g.mk' h' tk ∧ Heap.LeftW (hideAll h as) (C'.fenv :: C'.outer) ea (.ref 51) (.ref t0) h h') (E := fun _ _ => False)
    ok'.fr F2 ok'.fL he.1 (fun b o q => of_hideAll _ q) (hideAll_none _ (.head _)) rfl rfl rfl fun h' x => ⟨h', rfl, x⟩)) ?_ (fun _ _ z => z.1.elim)
  rintro _ s' ⟨⟨h', rfl, k1, ⟨_, _, k2⟩, k3, k4⟩, dk⟩
  have fl : Heap.FlyingW (hideAll h as) (C.fenv :: C.outer) ea (.ref 51) (.ref t0) h' := ⟨k1, hideAll_none _ (.head _), by rw [← on.ou]; exact k2, k3⟩
  obtain ⟨oe', o3, _⟩ := fl.there
  refine k h' ⟨⟨hideAll h as, ?_, fun q hq => ?_, fl⟩, ⟨oe', o3, dk.get he.1 o3⟩, ⟨C'.h₀, on.fg, (Heap.UpToSlots.of_keeps r.fr.keep).trans k4⟩, fun q hq => ?_, nd⟩
  · rw [← on.ba]
    intro b o q
    refine hideAll_get _ (r.fr.keep _ _ (ok'.B.stays b o q)) fun hm => ?_
    rcases List.mem_cons.mp hm with rfl | hm
    · have := ok'.B.stays _ _ q
      rw [he.2.2] at this; cases this
    · rw [(F1.mem hm).1] at q; cases q
  · obtain ⟨n1, n2⟩ := nl q hq
    refine hideAll_get _ (r.nw q n1).1 fun hm => ?_
    rcases List.mem_cons.mp hm with e | hm
    · exact n2 e
    · obtain ⟨env, h1, h2⟩ := List.mem_filterMap.mp hm
      rcases List.mem_cons.mp h1 with rfl | h1
      · exact (r.nw q n1).2.1 (Option.some.inj (h2.symm.trans ok'.fL))
      · obtain ⟨o, ho, _⟩ := (ok'.B.frames.mem (List.mem_filterMap.mpr ⟨env, h1, h2⟩)).2
        rw [(r.nw q n1).2.2] at ho; cases ho
  · obtain ⟨n1, n2⟩ := nl q hq
    have z := r.nw q n1
    refine ⟨fun e => ?_, ?_⟩
    · obtain ⟨oL, _, _, hL, _⟩ := on.fg.ns
      rw [← e, z.2.2] at hL; cases hL
    · cases y : C.h₀.get? q.1 with
      | none => rfl
      | some o => have := on.fg.keep _ _ y; rw [z.2.2] at this; cases this
end

section
variable {g : Gl} {C C' : Cx} {n : Nat} {mF : Str → Option Value} {E : Value → Shared → Prop} {Y : Led} {Z : Fz} {W : List Ent} {kd Cs : Led} {P : Str → Prop}
/-- the callee's own word on a Refusal, whichever way it came -/
theorem leave_X (ok' : Ok g C' n) (hfn : C'.mode = .fn) (on : On C' C mF) {X' : XC} (hX : X' = XF g C' P ∨ X' = XR g C' (fun m _ => P m)) {Z₀ : Fz} {e : Value} {s' : Shared} (hp : X'.p (kd ++ (Cs ++ (Y ++ led W))) Z₀ e s') {Q : Unit → Shared → Prop}
    (k : ∀ ea d t0 hs tk₁ m msg t Z' h' tk', e = .ref ea → P msg → FLe Z₀ Z' → Fly C mF ea d t0 ((d, msgDict hs tk₁ m msg t) :: ledger kd Cs Y Z' W) h' → Q () (g.mk' h' tk')) :
    wpAny (model g.prog g.w) C'.A (leaving C'.fenv e) Q E s' := by
  have sub : ∀ {cs : Led} {Z' : Fz} {W' : List Ent} {q : Addr × Obj}, q ∈ ledger kd Cs Y Z' W → q ∈ ledger [] cs (kd ++ (Cs ++ (Y ++ led W))) Z' W' := fun hq => (ledger_none _).symm.mem_iff.mp (List.mem_append_right _ (List.mem_append_left _ hq))
  rcases hX with rfl | rfl
  · obtain ⟨ea, d, t0, hs, tk₁, m, msg, t, Z', W', σ', h, tk', mF', kd', Cs', rfl, rfl, hP, f, r⟩ := hp
    have lo := r.lo
    unfold Loc at lo
    rw [hfn] at lo
    obtain ⟨rfl, _⟩ := lo
    have pm : (ledger [] Cs' (excLed ea d t0 hs tk₁ m msg t ++ (kd ++ (Cs ++ (Y ++ led W)))) Z' W').Perm ((ea, excOf (some d) t0) :: (t0, tupOf #[.str msg t] 0) :: (d, msgDict hs tk₁ m msg t) :: ledger [] Cs' (kd ++ (Cs ++ (Y ++ led W))) Z' W') :=
      (ledger_y _).trans (((ledger_y _).trans ((ledger_y _).cons _)).cons _)
    have nd₁ := (pm.map (·.1)).nodup_iff.mp r.nd
    have pm₂ : (ledger [] Cs' (kd ++ (Cs ++ (Y ++ led W))) Z' W').Perm (Cs' ++ (ledger kd Cs Y Z' W ++ led W')) := ledger_none Cs'
    simp only [List.map_cons, List.nodup_cons] at nd₁
    obtain ⟨_, _, n3, n4⟩ := nd₁
    have n5 := (pm₂.map (·.1)).nodup_iff.mp n4
    rw [List.map_append, List.map_append] at n5
    refine leave_fresh (news := (d, msgDict hs tk₁ m msg t) :: ledger kd Cs Y Z' W) ok' on r (fun q hq => ?_) ?_ fun h' F => k ea d t0 hs tk₁ m msg t Z' h' tk' rfl hP f F
    · rcases List.mem_cons.mp hq with rfl | hq
      · exact .inl rfl
      · exact .inr (sub hq)
    · rw [List.map_cons, List.nodup_cons]
      refine ⟨fun hm => n3 ?_, (List.nodup_append.mp (List.nodup_append.mp n5).2.1).1⟩
      obtain ⟨q, hq, e⟩ := List.mem_map.mp hm
      exact List.mem_map.mpr ⟨q, sub hq, e⟩
  · obtain ⟨ea, d, t0, hs, tk₁, m, msg, t, Z', W', σ', h, tk', mF', kd', Cs', rfl, rfl, hP, f, F, lo, _⟩ := hp
    unfold Loc at lo
    rw [hfn] at lo
    obtain ⟨rfl, _⟩ := lo
    have pm₂ : (ledger [] Cs' (kd ++ (Cs ++ (Y ++ led W))) Z' W').Perm (Cs' ++ (ledger kd Cs Y Z' W ++ led W')) := ledger_none Cs'
    have nd₁ := F.nd
    rw [List.map_cons, List.nodup_cons] at nd₁
    have n5 := (pm₂.map (·.1)).nodup_iff.mp nd₁.2
    rw [List.map_append, List.map_append] at n5
    refine leave_fly (news := (d, msgDict hs tk₁ m msg t) :: ledger kd Cs Y Z' W) ok' on F (fun q hq => ?_) ?_ fun h' F => k ea d t0 hs tk₁ m msg t Z' h' tk' rfl hP f F
    · rcases List.mem_cons.mp hq with rfl | hq
      · exact .head _
      · exact .tail _ (sub hq)
    · rw [List.map_cons, List.nodup_cons]
      refine ⟨fun hm => nd₁.1 ?_, (List.nodup_append.mp (List.nodup_append.mp n5).2.1).1⟩
      obtain ⟨q, hq, e⟩ := List.mem_map.mp hm
      exact List.mem_map.mpr ⟨q, sub hq, e⟩
end

section
variable {g : Gl} {C : Cx} {σ : St} {n : Nat}
  {name qual : Str} {params : Arguments} {body : List Stmt} {scope : Scope} {dV kV doc pm cdv ct : Value} {an : Option Addr} {f : Addr}
/-- which way a callee's Refusals come -/
noncomputable def Way (g : Gl) (mk : Cx → XC) (PX : Str → Prop) : Prop := ∀ C', mk C' = XF g C' PX ∨ mk C' = XR g C' (fun m _ => PX m)
theorem way_F {PX : Str → Prop} : Way g (fun C' => XF g C' PX) PX := fun _ => .inl rfl
theorem way_R {PX : Str → Prop} : Way g (fun C' => XR g C' fun m _ => PX m) PX := fun _ => .inr rfl

theorem call_noneX (ok : Ok g C (n + 1)) (F : Fn g.K f name qual params body scope dV kV doc pm an cdv ct) {xs : List FV} {slots : List Slot} {loc₀ : List (Option AV)} (S : Sig g.K (fnOf name qual params body scope dV kV doc pm an cdv ct) (xs.map .f) slots loc₀)
    {P : FV → Prop} {mk : Cx → XC} {PX : Str → Prop} (hX : Way g mk PX) {P' : Str → St → Prop} (hpx : ∀ m, PX m → P' m σ)
    (hb : ∀ C', Ok g C' n → C'.env = envOf qual scope C'.L f cdv → C'.mode = .fn → C'.slots = slots → C'.pl = false → AX g C' (mk C') (execs body C'.env) (fun fl σ' => ∃ v, retOf fl = some (.f v) ∧ P v) ⟨[], loc₀⟩)
    {Q : AV → St → Prop} (hq : ∀ v, P v → Q (.f v) σ) : AWh g C (XR g C P') (VR g.prog g.w) (xs.map .f) (fun vs => call (.ref f) vs) Q σ := by
  intro Y Z W h tk r vs hv Qc Ec q e
  have rd := ok.rd
  have ru := ok.ru
  have hv := hv.vfs
  obtain ⟨mF, kd, Cs, r⟩ := r
  obtain ⟨oc, od, osl, ho⟩ := F.ho
  have hX' : g.K.In h := ok.X.keeps r.fr.keep
  obtain ⟨binds, hbind, hloc, hsr⟩ := S.bind (g.mk' h tk) vs hX' (by rw [List.length_map]; exact hv.len.symm)
  refine wpAny_call (callX_plain (s := g.mk' h tk) (m := mF) (news := ledger kd Cs Y Z W) ok.B r.fr r.nw ok.T.nolimit ok.fr ok.fL ok.fk (hX' _ _ ho) rfl (codeRec_of hX' F.hcd) (by omega) hbind hloc (fun gg L' h₁ FG F' N' BG st l => ?_) S.nc F.hco F.hgen F.hk)
  have ok' : Ok g (calleeCx C.A C (envOf qual scope L' f cdv) gg L' slots false) n :=
    callee_ok ok ok.fr ok.hh (by omega) (by omega) BG st rfl F.hk rfl rfl rfl S.kl (fun x a q => absurd q (S.kc x a)) S.nd
  have pm := ledger_none (kd := kd) (Cs := Cs) (Y := Y) (Z := Z) (W := W) (W' := []) []
  simp only [led, List.flatMap_nil, List.append_nil, List.nil_append] at pm
  have r' : Rel g (calleeCx C.A C (envOf qual scope L' f cdv) gg L' slots false) (kd ++ (Cs ++ (Y ++ led W))) Z [] ⟨[], loc₀⟩ h₁ :=
    ⟨_, [], [], ⟨F', newsPerm N' pm, (pm.map _).nodup_iff.mpr r.nd, ⟨rfl, hsr g _ _ hv.vrs⟩, .nil⟩⟩
  refine hb _ ok' rfl rfl rfl rfl _ Z [] h₁ _ r' _ _ (fun b σ' v Z' W' h' tk' hp r₂ f₂ c₂ x₂ => ?_) (fun e' s' z => ?_)
  · obtain ⟨u, hu, hp⟩ := hp
    obtain ⟨mF₂, kd₂, Cs₂, r₂⟩ := r₂
    have lo₂ := r₂.lo
    obtain ⟨rfl, _⟩ := lo₂
    have pm₂ : (ledger [] Cs₂ (kd ++ (Cs ++ (Y ++ led W))) Z' W').Perm (Cs₂ ++ (ledger kd Cs Y Z' W ++ led W')) := ledger_none Cs₂
    have N₂ : News gg L' h' (ledger kd Cs Y Z' W) := fun q hq => newsPerm r₂.nw pm₂.symm q (List.mem_append_right _ (List.mem_append_left _ hq))
    have D₂ : ((ledger kd Cs Y Z' W).map (·.1)).Nodup := by
      have := (pm₂.map (·.1)).nodup_iff.mp r₂.nd
      rw [List.map_append, List.map_append] at this
      exact (List.nodup_append.mp (List.nodup_append.mp this).2.1).1
    have fin : ∀ vv, VF g.prog g.w Z' u vv → LeaveK C.h₀ C.L mF gg (fun r s' => match r with | .ok (.ret v) => Qc v s' | .ok _ => False | .error e => Ec e s') vv (g.mk' h' tk') := fun vv hvv =>
      leaveK_ (s' := g.mk' h' tk') r₂.fr N₂ fun F₃ N₃ => q (.f u) σ vv Z' W h' tk' (hq u hp) ⟨mF, kd, Cs, ⟨F₃, N₃, D₂, r.lo.mono f₂ (fun _ _ e => e), r.or.mono f₂ (fun _ _ e => e)⟩⟩ f₂ (PLe.refl _) (.f hvv)
    cases x₂ with
    | next => cases hu; exact fin _ .none
    | ret hv₂ => cases hu; cases hv₂ with | f hv₂ => exact fin _ hv₂
    | brk => cases hu
    | cont => cases hu
  · refine leave_X (C' := calleeCx C.A C (envOf qual scope L' f cdv) gg L' slots false) ok' rfl ⟨rfl, rfl, FG⟩ (hX _) z fun ea d t0 hs tk₁ m msg t Z' h' tk' he hP f F => ?_
    subst he
    exact e _ _ ⟨ea, d, t0, hs, tk₁, m, msg, t, Z', W, σ, h', tk', mF, kd, Cs, rfl, rfl, hpx _ hP, f, F, r.lo.mono f (fun _ _ e => e), r.or.mono f (fun _ _ e => e)⟩

theorem call_noneCX (ok : Ok g C (n + 1)) (F : Fn g.K f name qual params body scope dV kV doc pm an cdv ct) {xs dx : List FV} {ps os : List Str} {ds : List Value} (S : SigC g.K (fnOf name qual params body scope dV kV doc pm an cdv ct) ps os ds (dx.map .f)) (hl : xs.length + dx.length = ps.length)
    {P : FV → Prop} {mk : Cx → XC} {PX : Str → Prop} (hX : Way g mk PX) {P' : Str → St → Prop} (hpx : ∀ m, PX m → P' m σ)
    (hb : ∀ C', Ok g C' n → C'.env = envOfC qual scope C'.L f cdv → C'.mode = .fn → C'.slots = slotsC scope os C'.L → C'.pl = false → AX g C' (mk C') (execs body C'.env) (fun fl σ' => ∃ v, retOf fl = some (.f v) ∧ P v) ⟨[], locC scope os ps (xs.map .f ++ dx.map .f)⟩)
    {Q : AV → St → Prop} (hq : ∀ v, P v → Q (.f v) σ) : AWh g C (XR g C P') (VR g.prog g.w) (xs.map .f) (fun vs => call (.ref f) vs) Q σ := by
  intro Y Z W h tk r vs hv Qc Ec q e
  have := ok.rd
  have := ok.ru
  obtain ⟨mF, kd, Cs, r⟩ := r
  refine wpAny_call (fn_cells (n' := n) ok ok.fr ok.hh (by omega) (by omega) F S (by rw [List.length_map, List.length_map]; exact hl) false r hv fun gg L' h₁ tk' cells ok' FG F' N' nd sr => ?_)
  have pm := ledger_none (kd := kd) (Cs := Cs) (Y := Y) (Z := Z) (W := W) (W' := []) cells
  simp only [led, List.flatMap_nil, List.append_nil] at pm
  have sr' : SR g Z (adr []) (bindL (envOfC qual scope L' f cdv).kindOf (ps.zip (vs ++ ds)) fun _ => none) (slotsC scope os L') (locC scope os ps (xs.map .f ++ dx.map .f)) cells := by
    rw [← List.map_append] at sr ⊢
    exact sr.any locC_frozen
  have r' : Rel g (calleeCx C.A C (envOfC qual scope L' f cdv) gg L' (slotsC scope os L') false) (kd ++ (Cs ++ (Y ++ led W))) Z [] ⟨[], locC scope os ps (xs.map .f ++ dx.map .f)⟩ h₁ :=
    ⟨_, [], cells, ⟨F', newsPerm N' pm, (pm.map _).nodup_iff.mpr nd, ⟨rfl, sr'⟩, .nil⟩⟩
  refine hb _ ok' rfl rfl rfl rfl _ Z [] h₁ _ r' _ _ (fun b σ' v Z' W' h' tk' hp r₂ f₂ c₂ x₂ => ?_) (fun e' s' z => ?_)
  · obtain ⟨u, hu, hp⟩ := hp
    obtain ⟨mF₂, kd₂, Cs₂, r₂⟩ := r₂
    have lo₂ := r₂.lo
    obtain ⟨rfl, _⟩ := lo₂
    have pm₂ : (ledger [] Cs₂ (kd ++ (Cs ++ (Y ++ led W))) Z' W').Perm (Cs₂ ++ (ledger kd Cs Y Z' W ++ led W')) := ledger_none Cs₂
    have N₂ : News gg L' h' (ledger kd Cs Y Z' W) := fun q hq => newsPerm r₂.nw pm₂.symm q (List.mem_append_right _ (List.mem_append_left _ hq))
    have D₂ : ((ledger kd Cs Y Z' W).map (·.1)).Nodup := by
      have := (pm₂.map (·.1)).nodup_iff.mp r₂.nd
      rw [List.map_append, List.map_append] at this
      exact (List.nodup_append.mp (List.nodup_append.mp this).2.1).1
    have fin : ∀ vv, VF g.prog g.w Z' u vv → LeaveK C.h₀ C.L mF gg (fun r s' => match r with | .ok (.ret v) => Qc v s' | .ok _ => False | .error e => Ec e s') vv (g.mk' h' tk') := fun vv hvv =>
      leaveK_ (s' := g.mk' h' tk') r₂.fr N₂ fun F₃ N₃ => q (.f u) σ vv Z' W h' tk' (hq u hp) ⟨mF, kd, Cs, ⟨F₃, N₃, D₂, r.lo.mono f₂ (fun _ _ e => e), r.or.mono f₂ (fun _ _ e => e)⟩⟩ f₂ (PLe.refl _) (.f hvv)
    cases x₂ with
    | next => cases hu; exact fin _ .none
    | ret hv₂ => cases hu; cases hv₂ with | f hv₂ => exact fin _ hv₂
    | brk => cases hu
    | cont => cases hu
  · refine leave_X (C' := calleeCx C.A C (envOfC qual scope L' f cdv) gg L' (slotsC scope os L') false) ok' rfl ⟨rfl, rfl, FG⟩ (hX _) z fun ea d t0 hs tk₁ m msg t Z' h' tk' he hP f F => ?_
    subst he
    exact e _ _ ⟨ea, d, t0, hs, tk₁, m, msg, t, Z', W, σ, h', tk', mF, kd, Cs, rfl, rfl, hpx _ hP, f, F, r.lo.mono f (fun _ _ e => e), r.or.mono f (fun _ _ e => e)⟩
end

section
variable {g : Gl} {C : Cx} {X : XC} {σ : St} {n : Nat}
theorem R_fstr {v₁ v₂ : Expr} {rest : List Expr} {pos : Pos} {Q : AV → St → Prop} (h : AW g C X (joinParts Str.empty (eval v₁ C.env :: eval v₂ C.env :: evalEach rest C.env)) Q σ) : AW g C X (eval (.JoinedStr (v₁ :: v₂ :: rest) pos) C.env) Q σ :=
  fun Y Z W hh tk r Qc Ec q e => JoinedStr_many (h Y Z W hh tk r Qc Ec q e)
theorem R_join0 {out : Str} {Q : AV → St → Prop} (hz : out.length ≤ 2 ^ 20) (h : Q (.str out) σ) : AW g C X (joinParts out []) Q σ :=
  AWg.here h fun Y Z W hh tk r Qc Ec q => joinParts_nil (q (.str out tk) hh (tk + 1) (fun _ _ e => e) (.f .str)) (by rw [sizeLine_eq]; omega)
theorem R_joinC {out : Str} {e : Expr} {rest : List Expr} {Q : AV → St → Prop} (h : AW g C X (eval e C.env) (fun v σ₁ => ∃ y, v = .str y ∧ (out ++ y).length ≤ 2 ^ 20 ∧ AW g C X (joinParts (out ++ y) (evalEach rest C.env)) Q σ₁) σ) : AW g C X (joinParts out (eval e C.env :: evalEach rest C.env)) Q σ := by
  intro Y Z W hh tk r Qc Ec q e'
  refine joinParts_cons (h Y Z W hh tk r _ Ec (fun a σ₁ v₁ Z₁ W₁ h₁ t₁ p₁ r₁ f₁ w₁ x₁ => ?_) e')
  obtain ⟨y, rfl, hz, p₁⟩ := p₁
  obtain ⟨t, rfl⟩ := vr_str x₁
  exact ⟨by rw [sizeLine_eq]; omega, p₁ Y Z₁ W₁ h₁ t₁ r₁ Qc Ec (fun b σ' v Z' W' h' tk' hq r' f' w' x' => q b σ' v Z' W' h' tk' hq r' (f₁.trans f') (w₁.trans w') x') fun e' s' z => e' |> fun _ => by exact (‹∀ e s', X.p Y Z e s' → Ec e s'›) _ _ (X.mono f₁ z)⟩
theorem R_joinE {out : Str} {e₁ e₂ : Expr} {rest : List Expr} {Q : AV → St → Prop} (h : AW g C X (joinParts out (eval e₁ C.env :: evalEach (e₂ :: rest) C.env)) Q σ) : AW g C X (joinParts out (eval e₁ C.env :: eval e₂ C.env :: evalEach rest C.env)) Q σ := h
theorem R_joinEE {out : Str} {e : Expr} {rest : List Expr} {Q : AV → St → Prop} (h : AW g C X (joinParts out (eval e C.env :: evalEach rest C.env)) Q σ) : AW g C X (joinParts out (evalEach (e :: rest) C.env)) Q σ := h
theorem R_joinE0 {out : Str} {Q : AV → St → Prop} (h : AW g C X (joinParts out []) Q σ) : AW g C X (joinParts out (evalEach [] C.env)) Q σ := h
theorem R_fmt {value : Expr} {pos : Pos} {Q : AV → St → Prop} (h : AW g C X (eval value C.env) (fun v σ₁ => (∃ y, v = .str y ∧ y.length ≤ 2 ^ 20 ∧ Q (.str y) σ₁) ∨ (∃ i : Int, v = .int i ∧ i.natAbs.log2 < 1920 ∧ Q (.str (Str.ofString (toString i))) σ₁)) σ) :
    AW g C X (eval (.FormattedValue value (-1) none pos) C.env) Q σ := by
  intro Y Z W hh tk r Qc Ec q e'
  refine FormattedValue_plain (h Y Z W hh tk r _ Ec (fun a σ₁ v₁ Z₁ W₁ h₁ t₁ p₁ r₁ f₁ w₁ x₁ => ?_) e')
  rcases p₁ with ⟨y, rfl, hz, hq⟩ | ⟨i, rfl, hl, hq⟩
  · obtain ⟨t, rfl⟩ := vr_str x₁
    exact formatField_str (fun t' tk' => q _ σ₁ _ Z₁ W₁ h₁ tk' hq r₁ f₁ w₁ (.f .str)) (by rw [sizeLine_eq]; omega)
  · obtain ⟨t, rfl⟩ := vr_int x₁
    exact formatField_int_small hl (q _ σ₁ _ Z₁ W₁ h₁ _ hq r₁ f₁ w₁ (.f .str))
end
theorem str_assoc (a b c : Str) : a ++ b ++ c = a ++ (b ++ c) := by
  show (⟨(a.cps ++ b.cps) ++ c.cps⟩ : Str) = ⟨a.cps ++ (b.cps ++ c.cps)⟩
  rw [Array.append_assoc]
theorem str_empty (a : Str) : Str.empty ++ a = a := by
  show (⟨#[] ++ a.cps⟩ : Str) = a
  rw [Array.empty_append]
/-- the words of R's refusal -/
noncomputable def refMsg (c r : Int) : Str := (((("replacement has " : Str) ++ Str.ofString (toString c)) ++ (if c = 1 then (" row" : Str) else " rows")) ++ (", data has " : Str)) ++ Str.ofString (toString r)
theorem refMsg_eq (c r : Int) : ((((((Str.empty ++ ("replacement has " : Str)) ++ Str.ofString (toString c)) ++ (" row" : Str)) ++ (if c = 1 then ("" : Str) else "s")) ++ (", data has " : Str)) ++ Str.ofString (toString r)) = refMsg c r := by
  have e : (" row" : Str) ++ (if c = 1 then ("" : Str) else "s") = (if c = 1 then (" row" : Str) else " rows") := by
    split <;> decide
  unfold refMsg
  rw [str_empty, ← e]
  simp only [str_assoc]

section
variable {g : Gl} {C : Cx} {n : Nat} {h : Heap} {mF : Str → Option Value} {E : Value → Shared → Prop} {tk : Nat} {ea d t0 : Addr} {B : Heap} {A : Around}
/-- an exception in the air is caught: noted, its flight ended -/
theorem land1 (ok : Ok g C n) (F : Heap.FlyingW B (C.fenv :: C.outer) ea (.ref 51) (.ref t0) h) {Q : Unit → Shared → Prop}
    (k : ∀ h', Heap.FlyingW B (C.fenv :: C.outer) ea (.ref 51) (.ref t0) h' → h.UpToSlots h' → DK h h' → Q () (g.mk' h' tk)) :
    wpAny (model g.prog g.w) C.A (noteFrame (.ref ea) C.fenv) (fun _ s₂ => wpAny (model g.prog g.w) C.A (setFlight (.ref ea) none) Q E s₂) E (g.mk' h tk) := by
  refine wpAny_mono (wpAny_nice (nice_noteFrame _ _) (wpAny_looks_onW (Q := fun _ s' => ∃ h', s' = g.mk' h' tk ∧ Heap.HeldW B (C.fenv :: C.outer) ea (.ref 51) (.ref t0) C.L h' ∧ h.UpToSlots h') (E := fun _ _ => False) ok.fr ok.fL F fun h' x1 x2 => ⟨h', rfl, x1, x2⟩)) ?_ (fun _ _ z => z.1.elim)
  rintro _ s' ⟨⟨h₁, rfl, x1, x2⟩, d1⟩
  refine wpAny_mono (wpAny_nice (nice_setFlight _ _) (wpAny_landsW (Q := fun _ s' => ∃ h', s' = g.mk' h' tk ∧ Heap.FlyingW B (C.fenv :: C.outer) ea (.ref 51) (.ref t0) h' ∧ h₁.UpToSlots h') (E := fun _ _ => False) x1 fun h' y1 y2 => ⟨h', rfl, y1, y2⟩)) ?_ (fun _ _ z => z.1.elim)
  rintro _ s' ⟨⟨h₂, rfl, y1, y2⟩, d2⟩
  exact k h₂ y1 (x2.trans y2) (d1.trans d2)
theorem land2 {l : List Env} (F : Heap.FlyingW B l ea (.ref 51) (.ref t0) h) {Q : Unit → Shared → Prop}
    (k : ∀ h', Heap.FlyingW B l ea (.ref 51) (.ref t0) h' → h.UpToSlots h' → DK h h' → Q () (g.mk' h' tk)) :
    wpAny (model g.prog g.w) A (setFlight (.ref ea) none) Q E (g.mk' h tk) := by
  refine wpAny_mono (wpAny_nice (nice_setFlight _ _) (lands_againW (Q := fun _ s' => ∃ h', s' = g.mk' h' tk ∧ Heap.FlyingW B l ea (.ref 51) (.ref t0) h' ∧ h.UpToSlots h') (E := fun _ _ => False) F fun h' y1 y2 => ⟨h', rfl, y1, y2⟩)) ?_ (fun _ _ z => z.1.elim)
  rintro _ s' ⟨⟨h₂, rfl, y1, y2⟩, d2⟩
  exact k h₂ y1 y2 d2
/-- the name x holds nothing that is followed -/
noncomputable def Unb (x : Str) : List Slot → List (Option AV) → Prop
  | .l y :: ss, u :: us => (y = x → u = none) ∧ Unb x ss us
  | _ :: ss, _ :: us => Unb x ss us
  | _, _ => True
theorem SR.unb {Z : Fz} {φ : List Addr} {m : Str → Option Value} {x : Str} {v : Option Value} {ss : List Slot} {us : List (Option AV)} {Cs : Led} (h : SR g Z φ m ss us Cs) (k : Unb x ss us) : SR g Z φ (fun y => if y = x then v else m y) ss us Cs := by
  induction h with
  | nil => exact .nil
  | @l y u _ _ _ h _ ih =>
    refine .l ?_ (ih k.2)
    by_cases e : y = x
    · rw [k.1 e]; trivial
    · rw [if_neg e]; exact h
  | c hd h _ ih => exact .c hd h (ih k)
  | d hd h _ ih => exact .d hd h (ih k)

variable {Y : Led} {Z : Fz} {W : List Ent} {σ : St} {hs : Int} {tk₁ : Tok} {m : Nat} {msg : Str} {t : Tok} {kd Cs : Led}
theorem rel_at (hbh : C.base = C.h₀) (F : Fly C mF ea d t0 ((d, msgDict hs tk₁ m msg t) :: ledger kd Cs Y Z W) h) (lo : Loc g C Z (adr W) mF kd Cs σ.loc) (or' : ORs g Z (adr W) σ.heap W) :
    ∃ B, Heap.FlyingW B (C.fenv :: C.outer) ea (.ref 51) (.ref t0) h ∧ ∀ h', Heap.FlyingW B (C.fenv :: C.outer) ea (.ref 51) (.ref t0) h' → h.UpToSlots h' → DK h h' →
      ∃ oe, oe.cls = .ref 51 ∧ oe.dict = some d ∧ (∃ vs, oe.data = .fields vs) ∧ RelM g C Y Z W σ h' mF kd Cs ∧ RelM g C ((ea, oe) :: (d, msgDict hs tk₁ m msg t) :: Y) Z W σ h' mF kd Cs := by
  obtain ⟨B, b1, b2, b3⟩ := F.fw
  refine ⟨B, b3, fun h' x1 x2 x3 => ?_⟩
  obtain ⟨gg, f1, f2⟩ := F.up
  obtain ⟨oe₀, o1, o2⟩ := F.dk
  obtain ⟨oe, ws, hoe, hoec, hoed, hoe0⟩ := x1.first
  have hB : C.h₀.StaysIn h' := fun b o q => x1.1 b o (b1 b o (by rw [hbh]; exact q))
  have F' : Fr C.h₀ C.L h' mF := f1.of_stays hB (f2.trans x2)
  have N' : News C.h₀ C.L h' ((d, msgDict hs tk₁ m msg t) :: ledger kd Cs Y Z W) := fun q hq => ⟨x1.1 _ _ (b2 q hq), F.nw q hq⟩
  have hnew : C.h₀.get? ea = none := by
    cases z : C.h₀.get? ea with
    | none => rfl
    | some o => have := b1 ea o (by rw [hbh]; exact z); rw [x1.2.1] at this; cases this
  have N₂ := News.more F' N' hoe (fun es n q => by rw [hoed] at q; cases q) hnew
  have hne : ∀ q ∈ (d, msgDict hs tk₁ m msg t) :: ledger kd Cs Y Z W, q.1 ≠ ea := fun q hq e => by
    have := b2 q hq
    rw [e, x1.2.1] at this; cases this
  have nd := F.nd
  have pm : (ledger kd Cs ((ea, oe) :: (d, msgDict hs tk₁ m msg t) :: Y) Z W).Perm ((ea, oe) :: (d, msgDict hs tk₁ m msg t) :: ledger kd Cs Y Z W) := (ledger_y _).trans ((ledger_y _).cons _)
  refine ⟨oe, hoec, (x3.get o1 hoe).trans o2, ⟨ws, hoed⟩, ⟨F', fun q hq => N' q (.tail _ hq), ?_, lo, or'⟩, ⟨F', newsPerm N₂ pm, ?_, lo, or'⟩⟩
  · rw [List.map_cons, List.nodup_cons] at nd; exact nd.2
  · rw [(pm.map (·.1)).nodup_iff, List.map_cons, List.nodup_cons]
    refine ⟨fun hm => ?_, nd⟩
    obtain ⟨q, hq, e⟩ := List.mem_map.mp hm
    exact hne q hq e

theorem look_msg : lookIn "message" (msgDict hs tk₁ m msg t) = some (some (.str msg t)) := by
  have : (Value.str ("message" : Str) tk₁).isStr "message" = true := by rfl
  unfold lookIn
  show (match List.find? (fun x => x.key.isStr (Str.ofString "message")) [(⟨hs, .str "message" tk₁, .str msg t⟩ : DictEntry)] with | some e => some (some e.val) | none => if ([(⟨hs, .str "message" tk₁, .str msg t⟩ : DictEntry)].any fun x => x.refKey) = true then none else some none) = _
  rw [List.find?_cons, this]
/-- said = error.message, in the handler -/
theorem caught (hg : HK g) (ok : Ok g C n) (hfn : C.mode = .fn) (hef : C.env = C.fenv) (hbh : C.base = C.h₀)
    (F : Fly C mF ea d t0 ((d, msgDict hs tk₁ m msg t) :: ledger kd Cs Y Z W) h) (lo : Loc g C Z (adr W) mF kd Cs σ.loc) (or' : ORs g Z (adr W) σ.heap W)
    {np p1 p2 p3 pos : Pos} {rest : List ExceptHandler} {Q : Flow → Shared → Prop} (hx : C.env.kindOf "Refusal" = some .globalImplicit) (herr : .l "error" ∈ C.slots) (hu : Unb "error" C.slots σ.loc)
    {loc' : List (Option AV)} (hst : Store C.slots σ.loc "said" (some (.str msg)) loc') (hsl : .l "said" ∈ C.slots) (hu' : Unb "error" C.slots loc')
    (k : ∀ h' tk', Rel g C Y Z W ⟨σ.heap, loc'⟩ h' → Q .next (g.mk' h' tk')) 
    (he : eval (.Attribute (.Name "error" p2) "message" p3) C.env = (do
      let o ← eval (.Name "error" p2) C.env
      standAt p3.atName
      let r ← holding [o] (getAttr o "message" true)
      letTemporaryGo (.Name "error" p2) o r
      pure r) := by with_unfolding_all rfl) {p1' : Pos} (hsw : swapsWith (.Attribute (.Name "error" p2) "message" p3) (some (.Name "said" p1)) p1'.line C.env = pure false := by rfl) :
    wpAny (model g.prog g.w) C.A (noteFrame (.ref ea) C.env) (fun _ s₂ => wpAny (model g.prog g.w) C.A (setFlight (.ref ea) none) (fun _ s₃ =>
      wpAny (model g.prog g.w) C.A (handleBy (.ref ea) C.env (.ExceptHandler (some (.Name "Refusal" np)) (some "error") [.Assign [.Name "said" p1] (.Attribute (.Name "error" p2) "message" p3) p1'] pos :: rest)) Q E s₃) E s₂) E (g.mk' h tk) := by
  obtain ⟨B, b3, AT⟩ := rel_at hbh F lo or'
  have el : C.env.locals = C.L := by rw [ok.el, hfn]
  have hk : (C.env.scope.kind == .class || (C.env.scope.kind == .module && C.env.locals != C.env.globals)) = false := by rw [ok.ek]; rfl
  rw [hef]
  refine land1 ok b3 fun h₂ x1 x2 x3 => ?_
  rw [← hef]
  obtain ⟨oe, c1, c2, c3, r₀, r⟩ := AT h₂ x1 x2 x3
  refine wpAny_handleBy_cons (codeAny_handlers_test (nameG_K r.fr ok.X (topRead_of ok.T) (gi_Refusal hg).ns ?_ ok.eg ok.ek hx (by decide))) (by intro q; cases q)
  obtain ⟨nm, qn, N, bs, hdct, sn, sub, ab, col, dd, k0, k1, k2, k3, k5, hK⟩ := k51 hg
  have hC := (ok.X.keeps r.fr.keep) _ _ hK
  have hob := (r.nw (ea, oe) ((ledger_y _).symm.mem_iff.mp (.head _))).1
  refine wpAny_excMatches_sub_self hC hob c1 (by rfl) (codeAny_handlers_suite_as ?_)
  refine land2 x1 fun h₃ y1 y2 y3 => ?_
  obtain ⟨oe, c1, c2, ⟨ws, c3⟩, r₀, r⟩ := AT h₃ y1 (x2.trans y2) (x3.trans y3)
  -- the name error
  refine wpAny_storeName_local (ok.kl _ herr) (by rw [el]; exact r.fr.ns) (fun h₄ hn hs' => ?_) hk
  rw [el] at hn hs'
  have lo₃ := r.lo
  unfold Loc at lo₃
  rw [hfn] at lo₃
  obtain ⟨rfl, sr⟩ := lo₃
  have sr₄ := sr.unb (x := "error") (v := some (.ref ea)) hu
  have r₄ : RelM g C ((ea, oe) :: (d, msgDict hs tk₁ m msg t) :: Y) Z W σ h₄ (fun y => if y = "error" then some (.ref ea) else mF y) [] Cs :=
    ⟨r.fr.set hn hs', r.nw.set hs', r.nd, by unfold Loc; rw [hfn]; exact ⟨rfl, sr₄⟩, r.or⟩
  -- error.message
  have he₄ := (r₄.nw (ea, oe) ((ledger_y _).symm.mem_iff.mp (.head _))).1
  have hd₄ := (r₄.nw (d, msgDict hs tk₁ m msg t) ((ledger_y _).symm.mem_iff.mp (.tail _ ((ledger_y _).symm.mem_iff.mp (.head _))))).1
  have I : InstAt h₄ ea oe 51 (some (msgDict hs tk₁ m msg t)) := ⟨he₄, c1, by unfold notCls; rw [c3], by rw [c2]; exact hd₄⟩
  refine wpAny_execs_cons (wpAny_Assign_Name (Attribute_any_ (wpAny_Name (wpAny_loadName_local (v := .ref ea) ok.ek (ok.kl _ herr) (by rw [el]; exact r₄.fr.ns) (by simp) ?_) (by decide)) he) hsw)
  refine get_exc hg (ok.X.keeps r₄.fr.keep) I look_msg rfl ?_
  -- said
  rcases hst.sr (u := .str msg t) (.f .str) sr₄ ok.nd with ⟨h1, sr₅⟩ | ⟨a, o, ov, P, S, h1, _⟩
  · refine wpAny_storeName_local (ok.kl _ hsl) (by rw [el]; exact r₄.fr.ns) (fun h₅ hn₅ hs₅ => ?_) hk
    rw [el] at hn₅ hs₅
    have r₅ : RelM g C ((ea, oe) :: (d, msgDict hs tk₁ m msg t) :: Y) Z W ⟨σ.heap, loc'⟩ h₅ _ [] Cs :=
      ⟨r₄.fr.set hn₅ hs₅, r₄.nw.set hs₅, r₄.nd, by unfold Loc; rw [hfn]; exact ⟨rfl, sr₅⟩, r₄.or⟩
    refine wpAny_execs_nil ?_
    refine wpAny_nameGoes_keeps (ok.kl _ herr) (by rw [el]; exact r₅.fr.ns) hk fun h₆ v hn₆ hs₆ => ?_
    rw [el] at hn₆ hs₆
    have r₆ : RelM g C ((ea, oe) :: (d, msgDict hs tk₁ m msg t) :: Y) Z W ⟨σ.heap, loc'⟩ h₆ _ [] Cs :=
      ⟨r₅.fr.set hn₆ hs₆, r₅.nw.set hs₆, r₅.nd, by unfold Loc; rw [hfn]; exact ⟨rfl, sr₅.unb hu'⟩, r₅.or⟩
    exact k h₆ _ ⟨_, _, _, r₆.dropY.dropY⟩
  · have := (ok.kc _ _ h1).1
    rw [ok.kl _ hsl] at this; cases this

theorem X_try {X : XC} (hg : HK g) (ok : Ok g C n) (hfn : C.mode = .fn) (hef : C.env = C.fenv) (hbh : C.base = C.h₀) (hpl : C.pl = false) {P : Str → St → Prop} {Q : AF → St → Prop}
    {body : List Stmt} {np p1 p2 p3 pos pos' p1' : Pos} (hx : C.env.kindOf "Refusal" = some .globalImplicit) (herr : .l "error" ∈ C.slots) (hsl : .l "said" ∈ C.slots)
    (h : AX g C (XR g C P) (execs body C.env) Q σ)
    (hP : ∀ msg σ', P msg σ' → Unb "error" C.slots σ'.loc ∧ ∃ loc', Store C.slots σ'.loc "said" (some (.str msg)) loc' ∧ Unb "error" C.slots loc' ∧ Q .next ⟨σ'.heap, loc'⟩)
    (he : eval (.Attribute (.Name "error" p2) "message" p3) C.env = (do
      let o ← eval (.Name "error" p2) C.env
      standAt p3.atName
      let r ← holding [o] (getAttr o "message" true)
      letTemporaryGo (.Name "error" p2) o r
      pure r) := by with_unfolding_all rfl) (hsw : swapsWith (.Attribute (.Name "error" p2) "message" p3) (some (.Name "said" p1)) p1'.line C.env = pure false := by rfl) :
    AX g C X (exec (.Try body [.ExceptHandler (some (.Name "Refusal" np)) (some "error") [.Assign [.Name "said" p1] (.Attribute (.Name "error" p2) "message" p3) p1'] pos] [] [] pos') C.env) Q σ := by
  intro Y Z W hh tk r Qc Ec q e
  refine wpAny_Try_except (h Y Z W hh tk r _ _ (fun b σ' v Z' W' h' tk' hq r' f' c' x' => ?_) fun e' s' z => ?_)
  · have := q b σ' v Z' W' h' tk' hq r' f' c' x'
    cases x' with
    | next => exact wpAny_execs_nil this
    | brk => exact this
    | cont => exact this
    | ret hv => exact this
  · obtain ⟨ea, d, t0, hs, tk₁, m, msg, t, Z', W', σ', h', tk', mF, kd, Cs, rfl, rfl, hp, f, F, lo, or'⟩ := z
    obtain ⟨hu, loc', hst, hu', hq⟩ := hP msg σ' hp
    exact caught hg ok hfn hef hbh F lo or' hx herr hu hst hsl hu' (fun h'' tk'' r'' => q .next _ .next Z' W' h'' tk'' hq r'' f (fun z => by rw [hpl] at z; cases z) .next) he hsw
end

section
local macro_rules | `(tactic| k_dat $_ $ss:str*) => kGrps ss.toList
local macro_rules | `(tactic| k_memK) => `(tactic| first | with_reducible exact Load.l | with_reducible exact Load.c | (apply Load.tl; k_memK) | fail "aw")
local macro_rules | `(tactic| k_offL) => `(tactic| first | with_reducible exact Store.l | with_reducible exact Store.c | (apply Store.tl; k_offL) | fail "aw")
local macro_rules | `(tactic| kct_strs) => `(tactic| first | assumption | decide | k_dat _ "le20 a" "na19 a" "lt62 a" "le20m a" "lt62m a" "le20a a" "na20s a" "na19s a" | omega | (simp only [List.length_map, List.length_cons, List.length_nil, List.length_append, List.length_replicate]; omega) | (simp only [List.length_map, List.length_cons, List.length_nil, List.length_append, List.length_replicate] at *; omega) | fail "aw")
local macro_rules | `(tactic| kat_tups) => `(tactic| first | exact True.intro | k_dat _ "GN_kp * n" | fail "aw")
local macro_rules | `(tactic| kcj_m) => `(tactic| repeat' (k_dat _ "co_nil" "co_l _" "co_d dq _" "co_c dq rq rp _" "co_n dq rq _"))
local macro_rules | `(tactic| kbo_bools) => `(tactic| k_dat _ "AX _ _ _ _ _ _ : X_cons _ : X_nil _ : X_if _ : X_assign a _ r : X_setSub _ r : X_setAttr _ r : X_ret0 _ : X_cont _ : X_aug * a m _ : X_ex * _ r ra : X_assignT _ r ra : X_for t _ i : X_assignC a aa e _ g ea d r da ra db i" "K' _ _ _ _ _ _ _ : K_next _ : K_ret _ : K_cont _" "AWb _ _ _ ( isTrue _ _ _ ) _ _ : T_cmp _ u : T_not _ : T_and0 _ : T_or0 _ : T_and _ : T_or _ : T_ifexp _ : T_bool _ r" "AW _ _ _ ( eval ( PySem.Expr.Name _ _ ) _ ) _ _ : R_l * a m _ d : N_gn * * n a _ r d : N_bn * * n a _ r d" "AW _ _ _ ( eval ( PySem.Expr.Constant _ _ _ ) _ ) _ _ : R_int _ : R_str _ : R_none _ : R_bool _" "AW _ _ _ ( eval _ _ ) _ _ : R_cmp _ u : R_ifexp _ : R_bop1 _ : R_and _ : R_or _ : R_not _ : R_binop _ : R_subN _ : R_subK _ : R_subB _ : R_subS _ : R_subC _ : R_attr _ u : R_mcall a _ r ra : R_call a _ r ra : R_list _ : R_tuple _ : R_comp a aa e _ g d r da ra db i" "AWs _ _ _ _ _ _ : S_cons _ r : S_nil _" "AWh _ _ _ _ ( List.cons _ List.nil ) ( val1 _ ) _ _ : AS_name a _ : A_getC * $ r n ra d _" "AWh _ _ _ _ ( List.cons _ ( List.cons _ List.nil ) ) ( val2 ( compareOp _ ) ) _ _ : C_is _ : C_isnot _ : C_eqi _ : C_nei _ : C_lti _ : C_gti _ : C_lei _ : C_gei _ : C_eqns _ : C_eqs _ : C_nes _ : D_in r _ : D_notin r _" "AWh _ _ _ _ ( List.cons _ ( List.cons _ List.nil ) ) ( val2 ( binaryOp _ ) ) _ _ : B_add _ : B_sub _" "AWh _ _ _ _ ( List.cons _ ( List.cons _ List.nil ) ) ( val2 ( subscriptTail _ _ ) ) _ _ : G_tup d da r _ : G_list r d da ra _ : G_dict r ra _" "AWh _ _ _ _ ( List.cons _ ( List.cons _ List.nil ) ) ( val2 _ ) _ _ : A_setTC * $ n d _ : A_setC * $ r n d _" "AWh _ _ _ _ ( List.cons _ List.nil ) _ _ _ : L_len r s _ : L_lenD r s _ : L_range1 _ : L_abs _ : L_listR $ s sa _" "AWh _ _ _ _ ( List.cons _ ( List.cons _ List.nil ) ) _ _ _ : L_isiC * $ r _ : L_range2 _ : L_get r _ : L_append r s _" "AWh _ _ _ _ ( List.cons _ ( List.cons _ ( List.cons _ List.nil ) ) ) _ _ _ : ! D_set r s _ : ! L_setItem r s sa sb _" "Bind_mk * o _" "And _ _ : by_true r _ : by_false r _ : by_true' r _ : by_false' r _" "Exists _ : ex_bool _ : ex_int _ : ex_cst2 k _ : itr_list * s _ : itr_range * s sa sb _ : fitr_list * _ : fitr_range * s sa _ : fitr_dict * _ : ! ex_get r _ : ! ex_append r _ : ex_meth * $ n r d _ : ex_starts _")
local macro_rules | `(tactic| kcf_m) => `(tactic| k_dat _ "CompQ_cons _" "CompQ_if _" "CompQ_nil _" "CompQ_r3 r _" "comp_and r _" "CE_f r _" "WhileQ_succ _" "ForQ_cons _" "ForQ_nil _" "ForQ_r3 r _")
local macro_rules | `(tactic| k_ownIn) => `(tactic| k_dat _ "AWh _ _ _ _ _ _ _ _ : newList_F0 _ : newList_F1 _ : newList_F2 _ : newList_F3 _ : newList_F4 _ : newList_F7 _ : newTuple_F2 _ : newTuple_F3 _")
local macro_rules | `(tactic| kas_types) => `(tactic| k_dat _ "AWh _ _ _ _ _ _ _ _ : L_listF r s _ : vec_F2 * a _ : vec_F3 * a _ : null_F * a _ : sym_F * a _")
local macro_rules | `(tactic| got_up) => `(tactic| k_dat _ "AW _ _ _ ( eval ( PySem.Expr.Dict _ _ _ ) _ ) _ _ : R_dictB * $ _ r ra w d : R_dict0B * $ _" "P_nil _" "P_cons _" "ex_str _" "nd_and l _")
local macro_rules | `(tactic| walk_at "aw") => `(tactic| repeat' (first | kbo_bools | (with_reducible refine X_ret ?_) | fail "aw"))
local macro_rules | `(tactic| walk_at "awl") => `(tactic| repeat' (first | kbo_bools | (with_reducible refine X_ret ?_) | k_ownIn | got_up | fail "aw"))
local macro_rules | `(tactic| walk_at "awf") => `(tactic| repeat' (first | kbo_bools | (with_reducible refine X_ret ?_) | k_ownIn | kas_types | got_up | fail "aw"))
local macro_rules | `(tactic| walk_at "awn") => `(tactic| repeat' (first | kbo_bools | got_up | fail "aw"))
local macro_rules | `(tactic| walk_at "awu") => `(tactic| repeat' (first | kbo_bools | (with_reducible refine X_ret ?_) | k_ownIn | got_up | kcf_m | fail "aw"))
local macro_rules | `(tactic| walk_at "awm") => `(tactic| repeat' (first | kbo_bools | k_ownIn | got_up | kcf_m | fail "aw"))

section
variable {g : Gl} {C : Cx} {X : XC} {σ : St} {n : Nat}
section
variable {g : Gl} {C : Cx} {X : XC} {σ : St} {n : Nat} {target : Expr} {body : List Stmt} {Qn : St → Prop} {Q : AF → St → Prop}
theorem ForQ_cons {x : FV} {xs : List FV} (h : AWh g C XC.no RU [.f x] (val1 (assign target C.env)) (fun _ σ₁ => AX g C XC.no (execs body C.env) (fun f σ₂ => match f with
      | .next => ForQ g C target body Qn Q xs σ₂
      | .cont => ForQ g C target body Qn Q xs σ₂
      | .brk => Q .next σ₂
      | .ret v => Q (.ret v) σ₂) σ₁) σ) : ForQ g C target body Qn Q (x :: xs) σ := h
theorem ForQ_nil (h : Qn σ) : ForQ g C target body Qn Q [] σ := h
theorem ForQ_eq {target : Expr} {body : List Stmt} {Qn : St → Prop} {Q : AF → St → Prop} {xs ys : List FV} (e : xs = ys) (h : ForQ g C target body Qn Q ys σ) : ForQ g C target body Qn Q xs σ := by rw [e]; exact h
theorem ForQ_r3 {b : Int} (e : b = 3) (h : ForQ g C target body Qn Q [.int 0, .int 1, .int 2] σ) : ForQ g C target body Qn Q (rangeL 0 b) σ := by subst e; exact h
end
noncomputable abbrev mst (used : List AV) (ks : List Str) (xs : List AV) : List HO := [.ins 216 ["formals", "tags", "used", "places"] [.f (.lst [.str "x", .str "name", .str "value"]), .f (.lst [.none, .none, .str "value"]), .ref 1, .ref 2], .lst used, .dct ks xs]
end
section
variable {g : Gl} {C : Cx} {X : XC} {σ : St} {n : Nat}
theorem ex_int {i : Int} {P : Int → Prop} (h : P i) : ∃ j, AV.int i = .int j ∧ P j := ⟨i, rfl, h⟩
theorem WhileQ_succ {test : Expr} {body orelse : List Stmt} {Q : AF → St → Prop} {k : Nat} (h : AWb g C XC.no (isTrue test C.env (eval test C.env)) (fun b σ₁ =>
      (b = true → AX g C XC.no (execs body C.env) (fun f σ₂ => match f with
        | .next => WhileQ g C test body orelse Q k σ₂
        | .cont => WhileQ g C test body orelse Q k σ₂
        | .brk => Q .next σ₂
        | .ret v => Q (.ret v) σ₂) σ₁) ∧
      (b = false → AX g C XC.no (execs orelse C.env) Q σ₁)) σ) : WhileQ g C test body orelse Q (k + 1) σ := h
end
section
variable {g : Gl} {C : Cx} {elt c : Expr} {cv : List (Option AV)} {Qend : List AV → List HO → Prop} {H : List HO} {x : FV} {xs : List FV} {acc : List AV}
theorem CompQ_if (h : AWb g C XC.no (isTrue c C.env (eval c C.env)) (fun b σ₁ => σ₁.loc = some (.f x) :: cv ∧
        (b = true → AW g C XC.no (eval elt C.env) (fun y σ' => σ'.loc = some (.f x) :: cv ∧ CompQ g C elt [c] cv Qend xs (acc ++ [y]) σ'.heap) ⟨σ₁.heap, some (.f x) :: cv⟩) ∧
        (b = false → CompQ g C elt [c] cv Qend xs acc σ₁.heap)) ⟨H, some (.f x) :: cv⟩) : CompQ g C elt [c] cv Qend (x :: xs) acc H := h
theorem CompQ_cons (h : AW g C XC.no (eval elt C.env) (fun y σ' => σ'.loc = some (.f x) :: cv ∧ CompQ g C elt [] cv Qend xs (acc ++ [y]) σ'.heap) ⟨H, some (.f x) :: cv⟩) : CompQ g C elt [] cv Qend (x :: xs) acc H := h
theorem CompQ_nil {ifs : List Expr} (h : Qend acc H) : CompQ g C elt ifs cv Qend [] acc H := h
theorem CompQ_r3 {ifs : List Expr} {b : Int} (e : b = 3) (h : CompQ g C elt ifs cv Qend [.int 0, .int 1, .int 2] acc H) : CompQ g C elt ifs cv Qend (rangeL 0 b) acc H := by subst e; exact h
theorem comp_and {α : Type} {a b : α} {P : Prop} (e : a = b) (h : P) : a = b ∧ P := ⟨e, h⟩
noncomputable def avF : AV → Option FV
  | .f v => some v
  | _ => none
theorem avF_map : ∀ {acc : List AV} {ys : List FV}, allSome (acc.map avF) = some ys → acc = ys.map .f
  | [], _, e => by cases e; rfl
  | .ref _ :: _, _, e => by cases e
  | .f v :: r, ys, e => by
    rw [List.map_cons] at e
    unfold allSome at e
    cases q : allSome (r.map avF) with
    | none => simp only [avF, q] at e; cases e
    | some l =>
      simp only [avF, q] at e
      cases e
      rw [List.map_cons, ← avF_map q]
theorem CE_f {Q : AV → St → Prop} {loc : List (Option AV)} {ys : List FV} (e : allSome (acc.map avF) = some ys) (h : Q (.f (.lst ys)) ⟨H, loc⟩) : CE Q loc acc H := .inl ⟨ys, avF_map e, h⟩
end

noncomputable def dipR (ws : List Int) (lim : Int) : Int × List Int := match ws with
  | [] => (0, [])
  | x :: xs => (x.fmod lim, if x.fdiv lim = 0 then xs else x.fdiv lim :: xs)

section
variable {g : Gl} {C : Cx} {X : XC} {σ : St} {n : Nat}
theorem dip_spec (hg : HK g) (ok : Ok g C (n + 1)) {i : Nat} {ws : List Int} {lim : Int} {Q : AV → St → Prop} (hx : σ.heap[i]? = some (.lst (ws.map .int))) (hl : 0 < lim) (hl2 : lim < 100) (hz : ws.length ≤ 100)
    (h : Q (.int (dipR ws lim).1) ⟨σ.heap.set i (.lst ((dipR ws lim).2.map .int)), σ.loc⟩) :
    AWh g C X (VR g.prog g.w) [.ref i, .int lim] (fun vs => call (.ref 449) vs) Q σ := by
  refine' call_all ok (slots := [.l "well", .l "limit", .l "digit"]) (loc₀ := [some (.ref i), some (.int lim), none]) ?F (Sig.plain ["well", "limit"] ["digit"] rfl ?hb ?h1 ?h2 ?h3) ?bd
  case F => exact ⟨⟨_, _, _, by rw [hg]; rfl⟩, by rw [hg]; kernel_rfl, rfl, rfl, rfl⟩
  case hb => exact all2 fun _ _ => rfl
  case h1 => rfl
  case h2 => decide
  case h3 => rfl
  intro C' ok' he hm hs hpl
  have hL : ∀ l, lstOf ⟨σ.heap, l⟩ (.ref i) = some (ws.map .int) := fun l => by simp only [lstOf, hx]
  walk_at "aw"
  refine L_len (hL _) (by rw [List.length_map]; omega) ?_
  walk_at "aw"
  cases ws with
  | nil =>
    refine ⟨fun _ => ?_, fun q => by simp at q⟩
    walk_at "aw"
    have e : σ.heap.set i (.lst (([] : List Int).map .int)) = σ.heap := PySem.W.X.set_same hx
    rw [show (dipR [] lim).2 = [] from rfl, e] at h
    exact ⟨_, rfl, h⟩
  | cons x xs =>
    refine ⟨fun q => absurd (beq_iff_eq.mp q) (by rw [List.length_map, List.length_cons]; omega), fun _ => ?_⟩
    walk_at "aw"
    refine G_list (hL _) (by decide) (by decide) (y := .int x) rfl ?_
    walk_at "aw"
    refine B_mod (j := lim) (by omega) ?_
    walk_at "aw"
    refine G_list (hL _) (by decide) (by decide) (y := .int x) rfl ?_
    walk_at "aw"
    refine B_fdiv (j := lim) (by omega) (by omega) ?_
    walk_at "aw"
    refine L_setItem (xs := (x :: xs).map .int) hx (by decide) (by simp) (by rw [List.length_map]; omega) ?_
    have hx2 : (σ.heap.set i (.lst ((x.fdiv lim :: xs).map .int)))[i]? = some (.lst ((x.fdiv lim :: xs).map .int)) := by
      obtain ⟨hl, _⟩ := List.getElem?_eq_some_iff.mp hx
      rw [List.getElem?_set_self hl]
    have hL2 : ∀ l, lstOf ⟨σ.heap.set i (.lst ((x.fdiv lim :: xs).map .int)), l⟩ (.ref i) = some ((x.fdiv lim :: xs).map .int) := fun l => by simp only [lstOf, hx2]
    walk_at "aw"
    refine G_list (hL2 _) (by decide) (by decide) (y := .int (x.fdiv lim)) rfl ?_
    walk_at "aw"
    refine ⟨fun q => ?_, fun q => ?_⟩
    · have q := beq_iff_eq.mp q
      walk_at "aw"
      refine ⟨_, M_list (hL2 _) PySem.F.slot_list_pop PySem.F.type_list_pop, True.intro, ?_⟩
      walk_at "aw"
      refine L_pop0 (x := .int (x.fdiv lim)) (xs := xs.map .int) hx2 (by rw [List.length_map]; simp at hz; omega) ?_
      walk_at "aw"
      refine ⟨_, rfl, ?_⟩
      rw [show dipR (x :: xs) lim = (x.fmod lim, xs) from by simp [dipR, q]] at h
      simp only [List.set_set]
      exact h
    · have q := beq_eq_false_iff_ne.mp q
      walk_at "aw"
      refine ⟨_, rfl, ?_⟩
      rw [show dipR (x :: xs) lim = (x.fmod lim, x.fdiv lim :: xs) from by simp [dipR, q]] at h
      exact h
end

/-- the frozen R values -/
noncomputable abbrev vkeys : List Str := ["kind", "items", "attrs", "shared", "loose"]
noncomputable abbrev FV.vec (k : Str) (items at' : FV) : FV := .ins 99 vkeys [.str k, items, at', .bool false, .bool false]
noncomputable abbrev FV.nul : FV := .ins 70 ["kind", "attrs"] [.str "NULL", .none]
noncomputable abbrev FV.sym (x : Str) : FV := .ins 120 ["kind", "name", "attrs"] [.str "symbol", .str x, .none]

section
variable {g : Gl} {C : Cx} {X : XC} {σ : St} {n : Nat}

theorem null_M (hg : HK g) (ok : Ok g C (n + 1)) {Q : AV → St → Prop} (h : Q (.ref σ.heap.length) ⟨σ.heap ++ [.ins 70 ["kind", "attrs"] [.str "NULL", .none]], σ.loc⟩) : AWh g C X (VR g.prog g.w) [] (fun vs => call (.ref 70) vs) Q σ := by
  refine' call_class ok (ck_N hg) (slots := [.l "self"]) (loc₀ := [some (.ref σ.heap.length)]) ?F (Sig.plain ["self"] [] rfl ?hb ?h1 ?h2 ?h3) ?bd
  case F => exact ⟨⟨_, _, _, by rw [hg]; rfl⟩, by rw [hg]; kernel_rfl, rfl, rfl, rfl⟩
  case hb => exact all1 fun _ => rfl
  case h1 => rfl
  case h2 => decide
  case h3 => rfl
  intro C' ok' he hm hs hpl
  walk_at "aw"
  exact ⟨rfl, h⟩
theorem sym_M (hg : HK g) (ok : Ok g C (n + 1)) {x : AV} {Q : AV → St → Prop} (h : Q (.ref σ.heap.length) ⟨σ.heap ++ [.ins 120 ["kind", "name", "attrs"] [.str "symbol", x, .none]], σ.loc⟩) : AWh g C X (VR g.prog g.w) [x] (fun vs => call (.ref 120) vs) Q σ := by
  refine' call_class ok (ck_S hg) (slots := [.l "self", .l "name"]) (loc₀ := [some (.ref σ.heap.length), some x]) ?F (Sig.plain ["self", "name"] [] rfl ?hb ?h1 ?h2 ?h3) ?bd
  case F => exact ⟨⟨_, _, _, by rw [hg]; rfl⟩, by rw [hg]; kernel_rfl, rfl, rfl, rfl⟩
  case hb => exact all2 fun _ _ => rfl
  case h1 => rfl
  case h2 => decide
  case h3 => rfl
  intro C' ok' he hm hs hpl
  walk_at "aw"
  exact ⟨rfl, h⟩
theorem vec_M3 (hg : HK g) (ok : Ok g C (n + 1)) {k it at' : AV} {Q : AV → St → Prop} (h : Q (.ref σ.heap.length) ⟨σ.heap ++ [.ins 99 vkeys [k, it, at', .bool false, .bool false]], σ.loc⟩) : AWh g C X (VR g.prog g.w) [k, it, at'] (fun vs => call (.ref 99) vs) Q σ := by
  refine' call_class ok (ck_V hg) (slots := [.l "self", .l "kind", .l "items", .l "attrs"]) (loc₀ := [some (.ref σ.heap.length), some k, some it, some at']) ?F (Sig.dflt ["self", "kind", "items", "attrs"] [] [] [] ?hd rfl ?hb ?h1 ?h2 ?h3) ?bd
  case F => exact ⟨⟨_, _, _, by rw [hg]; rfl⟩, by rw [hg]; kernel_rfl, rfl, rfl, rfl⟩
  case hd => intro g Z φ; exact .nil
  case hb => intro s vs hK hv; obtain ⟨a, b, c, d, rfl⟩ := len4 hv; exact binds_K hK rfl (by rw [hg]; rfl) rfl rfl rfl
  case h1 => rfl
  case h2 => decide
  case h3 => rfl
  intro C' ok' he hm hs hpl
  walk_at "aw"
  exact ⟨rfl, h⟩
theorem vec_M2 (hg : HK g) (ok : Ok g C (n + 1)) {k it : AV} {Q : AV → St → Prop} (h : Q (.ref σ.heap.length) ⟨σ.heap ++ [.ins 99 vkeys [k, it, .none, .bool false, .bool false]], σ.loc⟩) : AWh g C X (VR g.prog g.w) [k, it] (fun vs => call (.ref 99) vs) Q σ := by
  refine' call_class ok (ck_V hg) (slots := [.l "self", .l "kind", .l "items", .l "attrs"]) (loc₀ := [some (.ref σ.heap.length), some k, some it, some .none]) ?F (Sig.dflt ["self", "kind", "items", "attrs"] [] [.none] [.none] ?hd rfl ?hb ?h1 ?h2 ?h3) ?bd
  case F => exact ⟨⟨_, _, _, by rw [hg]; rfl⟩, by rw [hg]; kernel_rfl, rfl, rfl, rfl⟩
  case hd => intro g Z φ; exact .cons (.f .none) .nil
  case hb => intro s vs hK hv; obtain ⟨a, b, c, rfl⟩ := len3 hv; exact binds_K hK rfl (by rw [hg]; rfl) rfl rfl rfl
  case h1 => rfl
  case h2 => decide
  case h3 => rfl
  intro C' ok' he hm hs hpl
  walk_at "aw"
  exact ⟨rfl, h⟩

theorem toF_f (k n : Nat) (T : List HO) (v : FV) : toF k n T (.f v) = some v := by cases k <;> rfl
theorem vec_F3 (hg : HK g) (ok : Ok g C (n + 1)) {k : Str} {it at' : FV} {Q : AV → St → Prop} (h : Q (.f (.vec k it at')) σ) : AWh g C X (VR g.prog g.w) [.str k, .f it, .f at'] (fun vs => call (.ref 99) vs) Q σ :=
  AWh.frz (vec_M3 hg ok ⟨_, _, rfl, rfl, by simp [toF, allSome, toF_f], h⟩)
theorem vec_F2 (hg : HK g) (ok : Ok g C (n + 1)) {k : Str} {it : FV} {Q : AV → St → Prop} (h : Q (.f (.vec k it .none)) σ) : AWh g C X (VR g.prog g.w) [.str k, .f it] (fun vs => call (.ref 99) vs) Q σ :=
  AWh.frz (vec_M2 hg ok ⟨_, _, rfl, rfl, by simp [toF, allSome, toF_f], h⟩)
theorem null_F (hg : HK g) (ok : Ok g C (n + 1)) {Q : AV → St → Prop} (h : Q (.f .nul) σ) : AWh g C X (VR g.prog g.w) [] (fun vs => call (.ref 70) vs) Q σ :=
  AWh.frz (null_M hg ok ⟨_, _, rfl, rfl, by simp [toF, allSome, toF_f], h⟩)
theorem sym_F (hg : HK g) (ok : Ok g C (n + 1)) {x : Str} {Q : AV → St → Prop} (h : Q (.f (.sym x)) σ) : AWh g C X (VR g.prog g.w) [.str x] (fun vs => call (.ref 120) vs) Q σ :=
  AWh.frz (sym_M hg ok ⟨_, _, rfl, rfl, by simp [toF, allSome, toF_f], h⟩)
end

section
variable {g : Gl} {C : Cx} {X : XC} {σ : St} {n : Nat}
theorem newList_F0 {Q : AV → St → Prop} (h : Q (.f (.lst [])) σ) : AWh g C X (VR g.prog g.w) [] newList Q σ := newList_F (xs := []) (by decide) h
theorem newList_F1 {a : FV} {Q : AV → St → Prop} (h : Q (.f (.lst [a])) σ) : AWh g C X (VR g.prog g.w) [.f a] newList Q σ := newList_F (xs := [a]) (by simp) h
theorem newList_F2 {a b : FV} {Q : AV → St → Prop} (h : Q (.f (.lst [a, b])) σ) : AWh g C X (VR g.prog g.w) [.f a, .f b] newList Q σ := newList_F (xs := [a, b]) (by simp) h
theorem newList_F3 {a b c : FV} {Q : AV → St → Prop} (h : Q (.f (.lst [a, b, c])) σ) : AWh g C X (VR g.prog g.w) [.f a, .f b, .f c] newList Q σ := newList_F (xs := [a, b, c]) (by simp) h
theorem newList_F4 {a b c d : FV} {Q : AV → St → Prop} (h : Q (.f (.lst [a, b, c, d])) σ) : AWh g C X (VR g.prog g.w) [.f a, .f b, .f c, .f d] newList Q σ := newList_F (xs := [a, b, c, d]) (by simp) h
theorem newList_F7 {a b c d e i j : FV} {Q : AV → St → Prop} (h : Q (.f (.lst [a, b, c, d, e, i, j])) σ) : AWh g C X (VR g.prog g.w) [.f a, .f b, .f c, .f d, .f e, .f i, .f j] newList Q σ := newList_F (xs := [a, b, c, d, e, i, j]) (by simp) h
theorem newTuple_F2 {a b : FV} {Q : AV → St → Prop} (h : Q (.f (.tup [a, b])) σ) : AWh g C X (VR g.prog g.w) [.f a, .f b] newTuple Q σ := newTuple_F (xs := [a, b]) (by simp) h
theorem newTuple_F3 {a b c : FV} {Q : AV → St → Prop} (h : Q (.f (.tup [a, b, c])) σ) : AWh g C X (VR g.prog g.w) [.f a, .f b, .f c] newTuple Q σ := newTuple_F (xs := [a, b, c]) (by simp) h
end
section
variable {g : Gl} {C : Cx} {X : XC} {σ : St} {n : Nat}
theorem integer_spec (hg : HK g) (ok : Ok g C (n + 2)) {xs : List FV} (hz : xs.length ≤ 1000) {Q : AV → St → Prop} (h : Q (.f (.vec "integer" (.lst xs) .none)) σ) : AWh g C X (VR g.prog g.w) [.f (.lst xs)] (fun vs => call (.ref 131) vs) Q σ := by
  refine' call_none ok (xs := [.lst xs]) (slots := [.l "items"]) (loc₀ := [some (.f (.lst xs))]) (P := fun v => v = .vec "integer" (.lst xs) .none) ?F (Sig.plain ["items"] [] rfl ?hb ?h1 ?h2 ?h3) ?bd (fun v e => by rw [e]; exact h)
  case F => exact ⟨⟨_, _, _, by rw [hg]; rfl⟩, by rw [hg]; kernel_rfl, rfl, rfl, rfl⟩
  case hb => exact all1 fun _ => rfl
  case h1 => rfl
  case h2 => decide
  case h3 => rfl
  intro C' ok' he hm hs hpl
  walk_at "awf"
  exact ⟨_, rfl, rfl⟩
theorem character_spec (hg : HK g) (ok : Ok g C (n + 2)) {xs : List FV} (hz : xs.length ≤ 1000) {Q : AV → St → Prop} (h : Q (.f (.vec "character" (.lst xs) .none)) σ) : AWh g C X (VR g.prog g.w) [.f (.lst xs)] (fun vs => call (.ref 138) vs) Q σ := by
  refine' call_none ok (xs := [.lst xs]) (slots := [.l "items"]) (loc₀ := [some (.f (.lst xs))]) (P := fun v => v = .vec "character" (.lst xs) .none) ?F (Sig.plain ["items"] [] rfl ?hb ?h1 ?h2 ?h3) ?bd (fun v e => by rw [e]; exact h)
  case F => exact ⟨⟨_, _, _, by rw [hg]; rfl⟩, by rw [hg]; kernel_rfl, rfl, rfl, rfl⟩
  case hb => exact all1 fun _ => rfl
  case h1 => rfl
  case h2 => decide
  case h3 => rfl
  intro C' ok' he hm hs hpl
  walk_at "awf"
  exact ⟨_, rfl, rfl⟩
theorem isvec_spec (hg : HK g) (ok : Ok g C (n + 1)) {k : Str} {it at' : FV} {Q : AV → St → Prop} (h : Q (.bool true) σ) : AWh g C X (VR g.prog g.w) [.f (.vec k it at')] (fun vs => call (.ref 152) vs) Q σ := by
  refine' call_none ok (xs := [.vec k it at']) (slots := [.l "v"]) (loc₀ := [some (.f (.vec k it at'))]) (P := fun v => v = .bool true) ?F (Sig.plain ["v"] [] rfl ?hb ?h1 ?h2 ?h3) ?bd (fun v e => by rw [e]; exact h)
  case F => exact ⟨⟨_, _, _, by rw [hg]; rfl⟩, by rw [hg]; kernel_rfl, rfl, rfl, rfl⟩
  case hb => exact all1 fun _ => rfl
  case h1 => rfl
  case h2 => decide
  case h3 => rfl
  intro C' ok' he hm hs hpl
  walk_at "awf"
  exact ⟨_, rfl, rfl⟩
theorem share_spec (hg : HK g) (ok : Ok g C (n + 1)) {k : Str} {it at' : FV} {Q : AV → St → Prop} (h : Q (.f (.vec k it at')) σ) : AWh g C X (VR g.prog g.w) [.f (.vec k it at')] (fun vs => call (.ref 159) vs) Q σ := by
  refine' call_none ok (xs := [.vec k it at']) (slots := [.l "v"]) (loc₀ := [some (.f (.vec k it at'))]) (P := fun v => v = .vec k it at') ?F (Sig.plain ["v"] [] rfl ?hb ?h1 ?h2 ?h3) ?bd (fun v e => by rw [e]; exact h)
  case F => exact ⟨⟨_, _, _, by rw [hg]; rfl⟩, by rw [hg]; kernel_rfl, rfl, rfl, rfl⟩
  case hb => exact all1 fun _ => rfl
  case h1 => rfl
  case h2 => decide
  case h3 => rfl
  intro C' ok' he hm hs hpl
  walk_at "awf"
  refine A_share (y := .bool true) ok' (ci_V_shared hg) (by decide) (by decide) ?_
  walk_at "awf"
  exact ⟨_, rfl, rfl⟩

/-- the attribute nm of attrs -/
noncomputable def attrOf : FV → Str → FV
  | .dct ks xs, nm => (fieldOf ks xs nm).getD .none
  | _, _ => .none
noncomputable def isAt : FV → Prop
  | .none => True
  | .dct _ _ => True
  | _ => False
theorem fieldOf_map {ks : List Str} {nm : Str} : ∀ {xs : List FV}, fieldOf ks (xs.map AV.f) nm = (fieldOf ks xs nm).map AV.f := by
  induction ks with
  | nil => intro xs; cases xs <;> rfl
  | cons k ks ih =>
    intro xs
    cases xs with
    | nil => rfl
    | cons x xs =>
      rw [List.map_cons]
      unfold fieldOf
      split
      · rfl
      · exact ih
theorem getattr_spec (hg : HK g) (ok : Ok g C (n + 1)) {k nm : Str} {it at' : FV} (ha : isAt at') {Q : AV → St → Prop} (h : Q (.f (attrOf at' nm)) σ) : AWh g C X (VR g.prog g.w) [.f (.vec k it at'), .str nm] (fun vs => call (.ref 272) vs) Q σ := by
  refine' call_none ok (xs := [.vec k it at', .str nm]) (slots := [.l "v", .l "name"]) (loc₀ := [some (.f (.vec k it at')), some (.str nm)]) (P := fun v => v = attrOf at' nm) ?F (Sig.plain ["v", "name"] [] rfl ?hb ?h1 ?h2 ?h3) ?bd (fun v e => by rw [e]; exact h)
  case F => exact ⟨⟨_, _, _, by rw [hg]; rfl⟩, by rw [hg]; kernel_rfl, rfl, rfl, rfl⟩
  case hb => exact all2 fun _ _ => rfl
  case h1 => rfl
  case h2 => decide
  case h3 => rfl
  intro C' ok' he hm hs hpl
  walk_at "awf"
  match at', ha with
  | .none, _ =>
    walk_at "awf"
    exact ⟨_, rfl, rfl⟩
  | .dct ks xs, _ =>
    walk_at "awf"
    refine ⟨(fieldOf ks xs nm).getD .none, ?_, rfl⟩
    rw [fieldOf_map]
    cases fieldOf ks xs nm <;> rfl
end

noncomputable abbrev FV.dfr (ns cols : List FV) (rk : Str) (ri : List FV) : FV :=
  .vec "list" (.lst cols) (.dct ["names", "class", "row.names"] [.vec "character" (.lst ns) .none, .vec "character" (.lst [.str "data.frame"]) .none, .vec rk (.lst ri) .none])
section
variable {g : Gl} {C : Cx} {X : XC} {σ : St} {n : Nat}
theorem dim_df (hg : HK g) (ok : Ok g C (n + 2)) {ns cols ri : List FV} {rk : Str} {Q : AV → St → Prop} (h : Q (.f (.none)) σ) : AWh g C X (VR g.prog g.w) [.f (FV.dfr ns cols rk ri)] (fun vs => call (.ref 284) vs) Q σ := by
  refine' call_none ok (xs := [FV.dfr ns cols rk ri]) (slots := [.l "v", .l "dims"]) (loc₀ := [some (.f (FV.dfr ns cols rk ri)), none]) (P := fun v => v = (.none)) ?F (Sig.plain ["v"] ["dims"] rfl ?hb ?h1 ?h2 ?h3) ?bd (fun v e => by rw [e]; exact h)
  case F => exact ⟨⟨_, _, _, by rw [hg]; rfl⟩, by rw [hg]; kernel_rfl, rfl, rfl, rfl⟩
  case hb => exact all1 fun _ => rfl
  case h1 => rfl
  case h2 => decide
  case h3 => rfl
  intro C' ok' he hm hs hpl
  walk_at "awf"
  refine getattr_spec hg ok' (by exact True.intro) ?_
  walk_at "awf"
  exact ⟨_, rfl, rfl⟩
theorem names_df (hg : HK g) (ok : Ok g C (n + 3)) {ns cols ri : List FV} {rk : Str} (hz : ns.length ≤ 1000) {Q : AV → St → Prop} (h : Q (.f (.lst ns)) σ) : AWh g C X (VR g.prog g.w) [.f (FV.dfr ns cols rk ri)] (fun vs => call (.ref 277) vs) Q σ := by
  refine' call_none ok (xs := [FV.dfr ns cols rk ri]) (slots := [.l "v", .l "tag", .l "dims", .l "rows", .l "names"]) (loc₀ := [some (.f (FV.dfr ns cols rk ri)), none, none, none, none]) (P := fun v => v = (.lst ns)) ?F (Sig.plain ["v"] ["tag", "dims", "rows", "names"] rfl ?hb ?h1 ?h2 ?h3) ?bd (fun v e => by rw [e]; exact h)
  case F => exact ⟨⟨_, _, _, by rw [hg]; rfl⟩, by rw [hg]; kernel_rfl, rfl, rfl, rfl⟩
  case hb => exact all1 fun _ => rfl
  case h1 => rfl
  case h2 => decide
  case h3 => rfl
  intro C' ok' he hm hs hpl
  walk_at "awf"
  refine dim_df hg ok' ?_
  walk_at "awf"
  refine getattr_spec hg ok' (by exact True.intro) ?_
  walk_at "awf"
  exact ⟨_, rfl, rfl⟩
theorem class_df (hg : HK g) (ok : Ok g C (n + 2)) {ns cols ri : List FV} {rk : Str} {Q : AV → St → Prop} (h : Q (.f (.lst [.str "data.frame"])) σ) : AWh g C X (VR g.prog g.w) [.f (FV.dfr ns cols rk ri)] (fun vs => call (.ref 296) vs) Q σ := by
  refine' call_none ok (xs := [FV.dfr ns cols rk ri]) (slots := [.l "v", .l "found"]) (loc₀ := [some (.f (FV.dfr ns cols rk ri)), none]) (P := fun v => v = (.lst [.str "data.frame"])) ?F (Sig.plain ["v"] ["found"] rfl ?hb ?h1 ?h2 ?h3) ?bd (fun v e => by rw [e]; exact h)
  case F => exact ⟨⟨_, _, _, by rw [hg]; rfl⟩, by rw [hg]; kernel_rfl, rfl, rfl, rfl⟩
  case hb => exact all1 fun _ => rfl
  case h1 => rfl
  case h2 => decide
  case h3 => rfl
  intro C' ok' he hm hs hpl
  walk_at "awf"
  refine getattr_spec hg ok' (by exact True.intro) ?_
  walk_at "awf"
  exact ⟨_, rfl, rfl⟩
theorem class_none (hg : HK g) (ok : Ok g C (n + 2)) {k : Str} {it : FV} {Q : AV → St → Prop} (h : Q (.f (.lst [])) σ) : AWh g C X (VR g.prog g.w) [.f (.vec k it .none)] (fun vs => call (.ref 296) vs) Q σ := by
  refine' call_none ok (xs := [.vec k it .none]) (slots := [.l "v", .l "found"]) (loc₀ := [some (.f (.vec k it .none)), none]) (P := fun v => v = (.lst [])) ?F (Sig.plain ["v"] ["found"] rfl ?hb ?h1 ?h2 ?h3) ?bd (fun v e => by rw [e]; exact h)
  case F => exact ⟨⟨_, _, _, by rw [hg]; rfl⟩, by rw [hg]; kernel_rfl, rfl, rfl, rfl⟩
  case hb => exact all1 fun _ => rfl
  case h1 => rfl
  case h2 => decide
  case h3 => rfl
  intro C' ok' he hm hs hpl
  walk_at "awf"
  refine getattr_spec hg ok' (by exact True.intro) ?_
  walk_at "awf"
  exact ⟨_, rfl, rfl⟩
theorem rows_df (hg : HK g) (ok : Ok g C (n + 1)) {ns cols ri : List FV} {rk : Str} (hz : ri.length ≤ 1000) {Q : AV → St → Prop} (h : Q (.f (.int ri.length)) σ) : AWh g C X (VR g.prog g.w) [.f (FV.dfr ns cols rk ri)] (fun vs => call (.ref 322) vs) Q σ := by
  refine' call_none ok (xs := [FV.dfr ns cols rk ri]) (slots := [.l "df"]) (loc₀ := [some (.f (FV.dfr ns cols rk ri))]) (P := fun v => v = (.int ri.length)) ?F (Sig.plain ["df"] [] rfl ?hb ?h1 ?h2 ?h3) ?bd (fun v e => by rw [e]; exact h)
  case F => exact ⟨⟨_, _, _, by rw [hg]; rfl⟩, by rw [hg]; kernel_rfl, rfl, rfl, rfl⟩
  case hb => exact all1 fun _ => rfl
  case h1 => rfl
  case h2 => decide
  case h3 => rfl
  intro C' ok' he hm hs hpl
  walk_at "awf"
  exact ⟨_, rfl, by rw [List.length_map]⟩
end

section
variable {g : Gl} {C : Cx} {X : XC} {σ : St} {n : Nat}
theorem colnames_spec (hg : HK g) (ok : Ok g C (n + 4)) {ns : List Str} {cols ri : List FV} {rk : Str} (hz : ns.length ≤ 1000) {Q : AV → St → Prop} (h : Q (.f (.lst (ns.map .str))) σ) : AWh g C X (VR g.prog g.w) [.f (FV.dfr (ns.map .str) cols rk ri)] (fun vs => call (.ref 327) vs) Q σ := by
  refine' call_none ok (xs := [FV.dfr (ns.map .str) cols rk ri]) (slots := [.l "df", .l "names"]) (loc₀ := [some (.f (FV.dfr (ns.map .str) cols rk ri)), none]) (P := fun v => v = (.lst (ns.map .str))) ?F (Sig.plain ["df"] ["names"] rfl ?hb ?h1 ?h2 ?h3) ?bd (fun v e => by rw [e]; exact h)
  case F => exact ⟨⟨_, _, _, by rw [hg]; rfl⟩, by rw [hg]; kernel_rfl, rfl, rfl, rfl⟩
  case hb => exact all1 fun _ => rfl
  case h1 => rfl
  case h2 => decide
  case h3 => rfl
  intro C' ok' he hm hs hpl
  walk_at "awf"
  refine names_df hg ok' (by rw [List.length_map]; exact hz) ?_
  walk_at "awf"
  intro C₂ ok₂ he₂ hs₂ hpl₂
  obtain ⟨Lc, he₂⟩ := he₂
  rw [he] at he₂
  rw [hs] at hs₂
  refine comp_map (f := id) (fun x hx => ?_) ?_
  · obtain ⟨y, _, rfl⟩ := List.mem_map.mp hx
    walk_at "awf"
    exact ⟨rfl, rfl⟩
  · refine ce_frozen ?_
    rw [List.map_id]
    walk_at "awf"
    exact ⟨_, rfl, rfl⟩
/-- a column of n rows -/
noncomputable def isCol (m : Nat) (x : FV) : Prop := ∃ k its at', x = .vec k (.lst its) at' ∧ its.length = m
theorem isframe_yes (hg : HK g) (ok : Ok g C (n + 4)) {ns cols ri : List FV} {rk : Str} (hn : ns.length = cols.length) (hz : cols.length ≤ 1000) (hr : ri.length ≤ 1000) (hc : ∀ x ∈ cols, isCol ri.length x) {Q : AV → St → Prop} (h : Q (.f (.bool true)) σ) : AWh g C X (VR g.prog g.w) [.f (FV.dfr ns cols rk ri)] (fun vs => call (.ref 303) vs) Q σ := by
  refine' call_none ok (xs := [FV.dfr ns cols rk ri]) (slots := [.l "v", .l "names", .l "column"]) (loc₀ := [some (.f (FV.dfr ns cols rk ri)), none, none]) (P := fun v => v = (.bool true)) ?F (Sig.plain ["v"] ["names", "column"] rfl ?hb ?h1 ?h2 ?h3) ?bd (fun v e => by rw [e]; exact h)
  case F => exact ⟨⟨_, _, _, by rw [hg]; rfl⟩, by rw [hg]; kernel_rfl, rfl, rfl, rfl⟩
  case hb => exact all1 fun _ => rfl
  case h1 => rfl
  case h2 => decide
  case h3 => rfl
  intro C' ok' he hm hs hpl
  walk_at "awf"
  refine class_df hg ok' ?_
  walk_at "awf"
  refine C_ninS (ns := ["data.frame"]) rfl ?_
  walk_at "awf"
  refine names_df hg ok' (by omega) ?_
  walk_at "awf"
  have e2 : ∀ its : List FV, its.length = ri.length → (((its.map AV.f).length : Int) != (ri.length : Int)) = false := fun its hl => by rw [List.length_map, hl]; simp
  have e : (((ns.map AV.f).length : Int) != ((cols.map AV.f).length : Int)) = false := by
    rw [List.length_map, List.length_map, hn]; simp
  refine ⟨fun q => ?_, fun q => ?_⟩
  all_goals walk_at "awf"
  try refine by_false e ?_
  all_goals walk_at "awf"
  all_goals refine for_inv (I := fun l σ' => (∀ x ∈ l, isCol ri.length x) ∧ ∃ u, σ' = ⟨[], [some (.f (FV.dfr ns cols rk ri)), some (.f (.lst ns)), u]⟩) ?_ ?_ _ _ ⟨hc, _, rfl⟩
  all_goals first
    | (rintro σ' ⟨_, u, rfl⟩; walk_at "awf"; exact ⟨_, rfl, rfl⟩)
    | (rintro x xs σ' ⟨hx, u, rfl⟩
       obtain ⟨k, its, at', rfl, hl⟩ := hx x (.head _)
       walk_at "awf"
       refine isvec_spec hg ok' ?_
       walk_at "awf"
       refine rows_df hg ok' hr ?_
       walk_at "awf"
       refine by_false (e2 its hl) ?_
       walk_at "awf"
       exact ⟨fun y hy => hx y (.tail _ hy), _, rfl⟩)
theorem isframe_no1 (hg : HK g) (ok : Ok g C (n + 1)) {k : Str} {it at' : FV} (hk : k ≠ ("list" : Str)) {Q : AV → St → Prop} (h : Q (.f (.bool false)) σ) : AWh g C X (VR g.prog g.w) [.f (.vec k it at')] (fun vs => call (.ref 303) vs) Q σ := by
  refine' call_none ok (xs := [.vec k it at']) (slots := [.l "v", .l "names", .l "column"]) (loc₀ := [some (.f (.vec k it at')), none, none]) (P := fun v => v = (.bool false)) ?F (Sig.plain ["v"] ["names", "column"] rfl ?hb ?h1 ?h2 ?h3) ?bd (fun v e => by rw [e]; exact h)
  case F => exact ⟨⟨_, _, _, by rw [hg]; rfl⟩, by rw [hg]; kernel_rfl, rfl, rfl, rfl⟩
  case hb => exact all1 fun _ => rfl
  case h1 => rfl
  case h2 => decide
  case h3 => rfl
  intro C' ok' he hm hs hpl
  walk_at "awf"
  have hkk : (k != ("list" : Str)) = true := bne_iff_ne.mpr hk
  rw [hkk]
  walk_at "awf"
  exact ⟨_, rfl, rfl⟩
theorem isframe_no2 (hg : HK g) (ok : Ok g C (n + 3)) {it : FV} {Q : AV → St → Prop} (h : Q (.f (.bool false)) σ) : AWh g C X (VR g.prog g.w) [.f (.vec "list" it .none)] (fun vs => call (.ref 303) vs) Q σ := by
  refine' call_none ok (xs := [.vec "list" it .none]) (slots := [.l "v", .l "names", .l "column"]) (loc₀ := [some (.f (.vec "list" it .none)), none, none]) (P := fun v => v = (.bool false)) ?F (Sig.plain ["v"] ["names", "column"] rfl ?hb ?h1 ?h2 ?h3) ?bd (fun v e => by rw [e]; exact h)
  case F => exact ⟨⟨_, _, _, by rw [hg]; rfl⟩, by rw [hg]; kernel_rfl, rfl, rfl, rfl⟩
  case hb => exact all1 fun _ => rfl
  case h1 => rfl
  case h2 => decide
  case h3 => rfl
  intro C' ok' he hm hs hpl
  walk_at "awf"
  refine class_none hg ok' ?_
  walk_at "awf"
  refine C_ninS (ns := []) rfl ?_
  walk_at "awf"
  exact ⟨_, rfl, rfl⟩
end

section
variable {g : Gl} {C : Cx} {X : XC} {σ : St} {n : Nat}
theorem newframe_spec (hg : HK g) (ok : Ok g C (n + 4)) {ns cols ri : List FV} {rk : Str} {m : Nat} (hz : cols.length ≤ 1000) (hzn : ns.length ≤ 1000) (hc : ∀ x ∈ cols, isCol m x) {Q : AV → St → Prop} (h : Q (.f (FV.dfr ns cols rk ri)) σ) : AWh g C X (VR g.prog g.w) [.f (.lst cols), .f (.lst ns), .f (.vec rk (.lst ri) .none)] (fun vs => call (.ref 308) vs) Q σ := by
  refine' call_none ok (xs := [.lst cols, .lst ns, .vec rk (.lst ri) .none]) (slots := [.l "columns", .l "names", .l "row_labels", .l "made"]) (loc₀ := [some (.f (.lst cols)), some (.f (.lst ns)), some (.f (.vec rk (.lst ri) .none)), none]) (P := fun v => v = (FV.dfr ns cols rk ri)) ?F (Sig.plain ["columns", "names", "row_labels"] ["made"] rfl ?hb ?h1 ?h2 ?h3) ?bd (fun v e => by rw [e]; exact h)
  case F => exact ⟨⟨_, _, _, by rw [hg]; rfl⟩, by rw [hg]; kernel_rfl, rfl, rfl, rfl⟩
  case hb => exact all3 fun _ _ _ => rfl
  case h1 => rfl
  case h2 => decide
  case h3 => rfl
  intro C' ok' he hm hs hpl
  refine AX.frz hpl ?_
  walk_at "awl"
  intro C₂ ok₂ he₂ hs₂ hpl₂
  obtain ⟨Lc, he₂⟩ := he₂
  rw [he] at he₂
  rw [hs] at hs₂
  refine comp_map (f := id) (fun x hx => ?_) ?_
  · obtain ⟨k, its, at', rfl, hl⟩ := hc x hx
    walk_at "awl"
    refine share_spec hg ok₂ ?_
    exact ⟨rfl, rfl⟩
  · refine ce_frozen ?_
    rw [List.map_id]
    walk_at "awl"
    refine vec_M2 hg ok' ?_
    walk_at "awl"
    refine character_spec hg ok' (by omega) ?_
    walk_at "awl"
    refine character_spec hg ok' (by simp) ?_
    walk_at "awl"
    exact ⟨_, _, rfl, rfl, rfl⟩
end

section
variable {g : Gl} {C : Cx} {X : XC} {σ : St} {n : Nat}
theorem C_ninT {ns : List Str} {k : Str} {xs : List FV} {Q : AV → St → Prop} (hx : xs = ns.map .str) (h : Q (.bool (!ns.any (· == k))) σ) : AWh g C X (VR g.prog g.w) [.str k, .f (.tup xs)] (val2 (compareOp .NotIn)) Q σ :=
  AWh.here h fun Y Z W hh tk r vs hv Qc Ec q => by
    subst hx
    obtain ⟨v, u, rfl, h1, h2⟩ := vrs2 hv
    obtain ⟨t, rfl⟩ := vr_str h1
    obtain ⟨mF, kd, Cs, r⟩ := r
    cases h2 with | f h2 => cases h2 with | tup hz to rs =>
    have hS : PyProof.Rows.StrsAre _ ns := vrs_strs (g := g) (φ := adr W) (by have := rs.vrs (φ := adr W); rw [List.map_map] at this; exact this)
    exact notin_tuple_strs (s := g.mk' hh tk) (to.is (r.mem_z hz)) hS (q (.bool _) hh tk (fun _ _ e => e) (.f .bool))

/-- the attributes of a vector in this law: none, names, a factor's, both -/
inductive At where
  | none
  | nm (v : FV)
  | lc (a b : FV)
  | lcn (a b v : FV)
noncomputable def At.fv : At → FV
  | .none => .none
  | .nm v => .dct ["names"] [v]
  | .lc a b => .dct ["levels", "class"] [a, b]
  | .lcn a b v => .dct ["levels", "class", "names"] [a, b, v]
noncomputable def At.kept : At → At
  | .none => .none
  | .nm _ => .none
  | .lc a b => .lc a b
  | .lcn a b _ => .lc a b
theorem kept_spec (hg : HK g) (ok : Ok g C (n + 1)) {k : Str} {it : FV} {at' : At} {Q : AV → St → Prop} (h : Q (.f (At.fv (At.kept at'))) σ) : AWh g C X (VR g.prog g.w) [.f (.vec k it (At.fv at'))] (fun vs => call (.ref 334) vs) Q σ := by
  refine' call_none ok (xs := [.vec k it (At.fv at')]) (slots := [.l "column", .l "kept", .l "name"]) (loc₀ := [some (.f (.vec k it (At.fv at'))), none, none]) (P := fun v => v = (At.fv (At.kept at'))) ?F (Sig.plain ["column"] ["kept", "name"] rfl ?hb ?h1 ?h2 ?h3) ?bd (fun v e => by rw [e]; exact h)
  case F => exact ⟨⟨_, _, _, by rw [hg]; rfl⟩, by rw [hg]; kernel_rfl, rfl, rfl, rfl⟩
  case hb => exact all1 fun _ => rfl
  case h1 => rfl
  case h2 => decide
  case h3 => rfl
  intro C' ok' he hm hs hpl
  refine AX.frz hpl ?_
  cases at' with
  | none =>
    walk_at "awl"
    exact ⟨_, _, rfl, rfl, rfl⟩
  | nm v =>
    dsimp only [At.fv]
    walk_at "awu"
    refine ForQ_eq (ys := [.str "names"]) rfl ?_
    walk_at "awu"
    refine C_ninT (ns := ["names", "dim", "dimnames"]) rfl ?_
    walk_at "awu"
    exact ⟨_, _, rfl, rfl, rfl⟩
  | lc a b =>
    dsimp only [At.fv]
    walk_at "awu"
    refine ForQ_eq (ys := [.str "levels", .str "class"]) rfl ?_
    walk_at "awu"
    refine C_ninT (ns := ["names", "dim", "dimnames"]) rfl ?_
    walk_at "awu"
    refine C_ninT (ns := ["names", "dim", "dimnames"]) rfl ?_
    walk_at "awu"
    exact ⟨_, _, rfl, rfl, rfl⟩
  | lcn a b v =>
    dsimp only [At.fv]
    walk_at "awu"
    refine ForQ_eq (ys := [.str "levels", .str "class", .str "names"]) rfl ?_
    walk_at "awu"
    refine C_ninT (ns := ["names", "dim", "dimnames"]) rfl ?_
    walk_at "awu"
    refine C_ninT (ns := ["names", "dim", "dimnames"]) rfl ?_
    walk_at "awu"
    refine C_ninT (ns := ["names", "dim", "dimnames"]) rfl ?_
    walk_at "awu"
    exact ⟨_, _, rfl, rfl, rfl⟩
end

section
variable {g : Gl} {C : Cx} {X : XC} {σ : St} {n : Nat}
theorem allSome_f {k n : Nat} {T : List HO} : ∀ {xs : List FV}, allSome ((xs.map AV.f).map (toF k n T)) = some xs
  | [] => rfl
  | x :: xs => by
    rw [List.map_cons, List.map_cons, toF_f]
    unfold allSome
    rw [allSome_f]
theorem toF_vec {xs : List FV} {k : Str} {at' : FV} : toF 9 0 [.lst (xs.map .f), .ins 99 vkeys [.str k, .ref 0, .f at', .bool false, .bool false]] (.ref 1) = some (.vec k (.lst xs) at') := by
  have h0 : toF 8 0 [HO.lst (xs.map .f), .ins 99 vkeys [.str k, .ref 0, .f at', .bool false, .bool false]] (.ref 0) = some (.lst xs) := by
    show (match allSome ((xs.map AV.f).map (toF 7 0 _)) with | some l => some (FV.lst l) | none => none) = _
    rw [allSome_f]
  show (match allSome [some (.str k), toF 8 0 [HO.lst (xs.map .f), .ins 99 vkeys [.str k, .ref 0, .f at', .bool false, .bool false]] (.ref 0), some at', some (.bool false), some (.bool false)] with | some l => some (FV.ins 99 vkeys l) | none => none) = _
  rw [h0]
  rfl
theorem G_at {value slice : Expr} {xs : List FV} {p : Nat} {Q : AV → St → Prop} (hp : p < xs.length) (hz : xs.length ≤ 2 ^ 20) (h : Q (.f (xs.getD p .none)) σ)
    (hs : ∀ o i, subscripted slice false o i = operate [o, i] (getItem o i) := by intro _ _; with_unfolding_all rfl) : AWh g C X (VR g.prog g.w) [.f (.lst xs), .int (p : Int)] (val2 (subscriptTail value slice)) Q σ :=
  G_list (xs := xs.map .f) rfl (by omega) (by omega) (by rw [Int.toNat_natCast, List.getElem?_map, List.getD_eq_getElem?_getD, List.getElem?_eq_getElem hp]; rfl) h hs

theorem pick_spec (hg : HK g) (ok : Ok g C (n + 2)) {k : Str} {its : List FV} {ps : List Nat} {at' : At} (hz : its.length ≤ 1000) (hzp : ps.length ≤ 1000) (hp : ∀ p ∈ ps, p < its.length) {Q : AV → St → Prop} (h : Q (.f (.vec k (.lst (ps.map fun (p : Nat) => its.getD p .none)) (At.fv at'.kept))) σ) : AWh g C X (VR g.prog g.w) [.f (.vec k (.lst its) (At.fv at')), .f (.lst (ps.map fun (p : Nat) => .int (p : Int)))] (fun vs => call (.ref 348) vs) Q σ := by
  refine' call_none ok (xs := [.vec k (.lst its) (At.fv at'), .lst (ps.map fun (p : Nat) => .int (p : Int))]) (slots := [.l "column", .l "places", .l "items", .l "count", .l "place"]) (loc₀ := [some (.f (.vec k (.lst its) (At.fv at'))), some (.f (.lst (ps.map fun (p : Nat) => .int (p : Int)))), none, none, none]) (P := fun v => v = (.vec k (.lst (ps.map fun (p : Nat) => its.getD p .none)) (At.fv at'.kept))) ?F (Sig.plain ["column", "places"] ["items", "count", "place"] rfl ?hb ?h1 ?h2 ?h3) ?bd (fun v e => by rw [e]; exact h)
  case F => exact ⟨⟨_, _, _, by rw [hg]; rfl⟩, by rw [hg]; kernel_rfl, rfl, rfl, rfl⟩
  case hb => exact all2 fun _ _ => rfl
  case h1 => rfl
  case h2 => decide
  case h3 => rfl
  intro C' ok' he hm hs hpl
  refine AX.frz hpl ?_
  walk_at "aw"
  refine newList_M (xs := []) (by decide) ?_
  walk_at "awl"
  rw [List.length_map]
  refine for_inv (I := fun l σ' => ∃ (d r : List Nat) (u : Option AV), l = r.map (fun (p : Nat) => .int (p : Int)) ∧ d ++ r = ps ∧
    σ' = ⟨[.lst ((d.map fun (p : Nat) => its.getD p .none).map .f)], [some (.f (.vec k (.lst its) (At.fv at'))), some (.f (.lst (ps.map fun (p : Nat) => .int (p : Int)))), some (.ref 0), some (.int its.length), u]⟩) ?_ ?_ _ _ ⟨[], ps, _, rfl, rfl, rfl⟩
  · rintro σ' ⟨d, r, u, hl, hd, rfl⟩
    have hr : r = [] := by cases r with | nil => rfl | cons _ _ => cases hl
    subst hr
    rw [List.append_nil] at hd
    subst hd
    walk_at "awl"
    refine kept_spec hg ok' ?_
    walk_at "awl"
    refine vec_M3 hg ok' ?_
    walk_at "awl"
    exact ⟨_, _, rfl, toF_vec, rfl⟩
  · rintro x xs σ' ⟨d, r, u, hl, hd, rfl⟩
    cases r with
    | nil => cases hl
    | cons p r =>
    cases hl
    have hpl : p < its.length := hp p (by rw [← hd]; exact List.mem_append_right _ (.head _))
    have hdl : d.length ≤ 1000 := by have := congrArg List.length hd; rw [List.length_append] at this; omega
    have e3 : decide ((its.length : Int) ≤ (p : Int)) = false := decide_eq_false (by omega)
    walk_at "awl"
    refine by_false e3 ?_
    walk_at "awl"
    refine G_at hpl (by omega) ?_
    walk_at "awl"
    refine ⟨d ++ [p], r, some (.f (.int (p : Int))), rfl, by rw [List.append_assoc]; exact hd, ?_⟩
    simp only [List.map_append, List.map_cons, List.map_nil]
    rfl
end

section
variable {g : Gl} {C : Cx} {X : XC} {σ : St} {n : Nat}
/-- the table of first places -/
noncomputable def tabGo : List Str → Nat → List Str → List AV → List Str × List AV
  | [], _, ks, xs => (ks, xs)
  | m :: r, i, ks, xs => if m ∈ ks then tabGo r (i + 1) ks xs else tabGo r (i + 1) (putK ks m) (putX ks xs m (.int (i : Int)))
theorem tabGo_cons {m : Str} {r : List Str} {i : Nat} {ks : List Str} {xs : List AV} : tabGo (m :: r) i ks xs = if m ∈ ks then tabGo r (i + 1) ks xs else tabGo r (i + 1) (putK ks m) (putX ks xs m (.int (i : Int))) := rfl
theorem range_head {m i : Nat} {x : FV} {xs : List FV} (h : x :: xs = (rangeL 0 (m : Int)).drop i) : i < m ∧ x = .int (i : Int) ∧ xs = (rangeL 0 (m : Int)).drop (i + 1) := by
  have h1 : (rangeL 0 (m : Int))[i]? = some x := by
    have := congrArg List.head? h
    rw [List.head?_cons, List.head?_drop] at this
    exact this.symm
  obtain ⟨e, hi⟩ := rangeL_get h1
  refine ⟨by omega, by rw [e]; congr 1; omega, ?_⟩
  rw [drop_cons h1] at h
  exact (List.cons.inj h).2
theorem range_nil {m i : Nat} (h : [] = (rangeL 0 (m : Int)).drop i) : m ≤ i := by
  have := congrArg List.length h
  rw [List.length_drop] at this
  unfold rangeL at this
  rw [List.length_map, List.length_range, List.length_nil] at this
  omega
theorem putK_len {ks : List Str} {m : Str} : (putK ks m).length ≤ ks.length + 1 := by
  induction ks with
  | nil => exact Nat.le_refl _
  | cons k ks ih => unfold putK; split <;> simp <;> omega
theorem fplaces_spec (hg : HK g) (ok : Ok g C (n + 1)) {ns : List Str} {loc : List (Option AV)} (hz : ns.length ≤ 1000) (hne : ∀ m ∈ ns, m ≠ ("" : Str)) {Q : AV → St → Prop} (h : Q (.ref 0) ⟨[.dct (tabGo ns 0 [] []).1 (tabGo ns 0 [] []).2], loc⟩) :
    AWh g C X (VR g.prog g.w) [.f (.lst (ns.map .str))] (fun vs => call (.ref 388) vs) Q ⟨[], loc⟩ := by
  refine' call_all ok (slots := [.l "names", .l "table", .l "i", .l "name"]) (loc₀ := [some (.f (.lst (ns.map .str))), none, none, none]) ?F (Sig.plain ["names"] ["table", "i", "name"] rfl ?hb ?h1 ?h2 ?h3) ?bd
  case F => exact ⟨⟨_, _, _, by rw [hg]; rfl⟩, by rw [hg]; kernel_rfl, rfl, rfl, rfl⟩
  case hb => exact all1 fun _ => rfl
  case h1 => rfl
  case h2 => decide
  case h3 => rfl
  intro C' ok' he hm hs hpl
  walk_at "awl"
  rw [List.length_map, List.length_map]
  refine for_inv (I := fun l σ' => ∃ (i : Nat) (ks : List Str) (xs : List AV) (u1 u2 : Option AV), l = (rangeL 0 (ns.length : Int)).drop i ∧ ks.length ≤ i ∧ i ≤ ns.length ∧ tabGo (ns.drop i) i ks xs = tabGo ns 0 [] [] ∧
    σ' = ⟨[.dct ks xs], [some (.f (.lst (ns.map .str))), some (.ref 0), u1, u2]⟩) ?_ ?_ _ _ ⟨0, [], [], none, none, rfl, Nat.le_refl _, Nat.zero_le _, rfl, rfl⟩
  · rintro σ' ⟨i, ks, xs, u1, u2, hl, hk, hi, ht, rfl⟩
    have := range_nil hl
    rw [List.drop_eq_nil_of_le this] at ht
    rw [← ht] at h
    walk_at "awl"
    exact ⟨_, rfl, h⟩
  · rintro x xs' σ' ⟨i, ks, xs, u1, u2, hl, hk, hi, ht, rfl⟩
    obtain ⟨hi', rfl, rfl⟩ := range_head hl
    have hd : ns.drop i = ns[i] :: ns.drop (i + 1) := List.drop_eq_getElem_cons hi'
    rw [hd] at ht
    rw [tabGo_cons] at ht
    have hnm : (ns[i] != ("" : Str)) = true := bne_iff_ne.mpr (hne _ (List.getElem_mem hi'))
    walk_at "awl"
    refine G_list (xs := (ns.map FV.str).map .f) (y := .str ns[i]) rfl (by omega) (by omega) (by rw [Int.toNat_natCast, List.getElem?_map, List.getElem?_map, List.getElem?_eq_getElem hi']; rfl) ?_
    walk_at "awl"
    rw [hnm]
    walk_at "awl"
    refine ⟨fun q => ?_, fun q => ?_⟩
    · have hnk : ns[i] ∉ ks := by simpa using q
      rw [if_neg hnk] at ht
      walk_at "awl"
      have hpk := putK_len (ks := ks) (m := ns[i])
      exact ⟨i + 1, _, _, _, _, rfl, by omega, hi', ht, rfl⟩
    · have hnk : ns[i] ∈ ks := by simpa using q
      rw [if_pos hnk] at ht
      walk_at "awl"
      exact ⟨i + 1, _, _, _, _, rfl, by omega, hi', ht, rfl⟩
end

section
variable {g : Gl} {C : Cx} {X : XC} {σ : St} {n : Nat}
theorem fieldOf_put {α : Type} {m t : Str} {y : α} : ∀ {ks : List Str} {xs : List α}, ks.length = xs.length → fieldOf (putK ks m) (putX ks xs m y) t = if m = t then some y else fieldOf ks xs t
  | [], [], _ => rfl
  | k :: ks, x :: xs, h => by
    have ih := fieldOf_put (m := m) (t := t) (y := y) (ks := ks) (xs := xs) (by simpa using h)
    unfold putK putX
    by_cases e : k = m
    · rw [if_pos e, if_pos e]
      unfold fieldOf
      by_cases e2 : k = t
      · rw [if_pos e2, if_pos (e ▸ e2)]
      · rw [if_neg e2, if_neg (fun q => e2 (e.trans q)), if_neg e2]
    · rw [if_neg e, if_neg e]
      unfold fieldOf
      by_cases e2 : k = t
      · rw [if_pos e2, if_pos e2, if_neg (fun q => e (e2.trans q.symm))]
      · rw [if_neg e2, if_neg e2, ih]
  | [], _ :: _, h => by cases h
  | _ :: _, [], h => by cases h
theorem put_len {α : Type} {m : Str} {y : α} : ∀ {ks : List Str} {xs : List α}, ks.length = xs.length → (putK ks m).length = (putX ks xs m y).length
  | [], [], _ => rfl
  | k :: ks, x :: xs, h => by
    have ih := put_len (m := m) (y := y) (ks := ks) (xs := xs) (by simpa using h)
    unfold putK putX
    split
    · exact h
    · simpa using ih
  | [], _ :: _, h => by cases h
  | _ :: _, [], h => by cases h
theorem putK_mem {m t : Str} : ∀ {ks : List Str}, t ∈ putK ks m ↔ t = m ∨ t ∈ ks
  | [] => by unfold putK; simp
  | k :: ks => by
    unfold putK
    split
    · rename_i e; subst e; simp
    · rw [List.mem_cons, putK_mem, List.mem_cons]; constructor <;> (intro h; rcases h with h | h | h <;> simp [h])
theorem tab_mem {t : Str} : ∀ {ns : List Str} {i : Nat} {ks : List Str} {xs : List AV}, t ∈ (tabGo ns i ks xs).1 ↔ t ∈ ks ∨ t ∈ ns
  | [], i, ks, xs => by unfold tabGo; simp
  | m :: r, i, ks, xs => by
    rw [tabGo_cons]
    split
    · rename_i hm
      rw [tab_mem, List.mem_cons]
      constructor
      · rintro (h | h) <;> simp [h]
      · rintro (h | h | h)
        · exact .inl h
        · exact .inl (h ▸ hm)
        · exact .inr h
    · rw [tab_mem, putK_mem, List.mem_cons]
      constructor
      · rintro ((h | h) | h) <;> simp [h]
      · rintro (h | h | h) <;> simp [h]
theorem tab_old {t : Str} : ∀ {ns : List Str} {i : Nat} {ks : List Str} {xs : List AV}, ks.length = xs.length → t ∈ ks → fieldOf (tabGo ns i ks xs).1 (tabGo ns i ks xs).2 t = fieldOf ks xs t
  | [], i, ks, xs, _, _ => rfl
  | m :: r, i, ks, xs, hl, ht => by
    rw [tabGo_cons]
    split
    · exact tab_old hl ht
    · rename_i hm
      rw [tab_old (put_len hl) (putK_mem.mpr (.inr ht)), fieldOf_put hl, if_neg (fun (e : m = t) => hm (e ▸ ht))]
theorem tab_get {t : Str} : ∀ {ns : List Str} {i : Nat} {ks : List Str} {xs : List AV}, ks.length = xs.length → t ∉ ks → t ∈ ns → fieldOf (tabGo ns i ks xs).1 (tabGo ns i ks xs).2 t = some (.int ((i + ns.findIdx (· == t) : Nat) : Int))
  | [], i, ks, xs, _, _, h => by cases h
  | m :: r, i, ks, xs, hl, hk, ht => by
    rw [tabGo_cons, List.findIdx_cons]
    by_cases e : m = t
    · subst e
      rw [if_neg hk, tab_old (put_len hl) (putK_mem.mpr (.inl rfl)), fieldOf_put hl, if_pos rfl]
      simp
    · have ht' : t ∈ r := (List.mem_cons.mp ht).resolve_left fun q => e q.symm
      have eb : (m == t) = false := beq_eq_false_iff_ne.mpr e
      rw [eb]
      split
      · rw [tab_get hl hk ht']; congr 3; simp; omega
      · rw [tab_get (put_len hl) (fun q => (putK_mem.mp q).elim (fun z => e z.symm) hk) ht']; congr 3; simp; omega
theorem tab_len : ∀ {ns : List Str} {i : Nat} {ks : List Str} {xs : List AV}, (tabGo ns i ks xs).1.length ≤ ks.length + ns.length
  | [], i, ks, xs => Nat.le_refl _
  | m :: r, i, ks, xs => by
    rw [tabGo_cons, List.length_cons]
    split
    · have := tab_len (ns := r) (i := i + 1) (ks := ks) (xs := xs); omega
    · have := tab_len (ns := r) (i := i + 1) (ks := putK ks m) (xs := putX ks xs m (.int (i : Int)))
      have := putK_len (ks := ks) (m := m)
      omega
theorem X_frzTo {t : Sem Flow} {Q : AF → St → Prop} {H : List HO} {loc loc' : List (Option AV)} (hpl : C.pl = false) (e : loc.map (frzA 0 H) = loc') (h : AX g C X t Q ⟨[], loc'⟩) : AX g C X t Q ⟨H, loc⟩ := X_frzA hpl (by rw [e]; exact h)
/-- the place of t among the names, the end when there is none -/
noncomputable def colIx (ns : List Str) (t : Str) : Nat := ns.findIdx (· == t)
noncomputable def addedOf (ns : List Str) (t : Str) : List FV := if t ∈ ns then [] else [.str t]
theorem extending_spec (hg : HK g) (ok : Ok g C (n + 2)) {ns : List Str} {t : Str} (hz : ns.length ≤ 1000) (hne : ∀ m ∈ ns, m ≠ ("" : Str)) (ht : t ≠ ("" : Str)) {Q : AV → St → Prop} (h : Q (.f (.tup [.lst [.int (colIx ns t)], .lst (addedOf ns t)])) σ) : AWh g C X (VR g.prog g.w) [.f (.lst [.str t]), .f (.int ns.length), .f (.lst (ns.map .str))] (fun vs => call (.ref 402) vs) Q σ := by
  refine' call_none ok (xs := [.lst [.str t], .int ns.length, .lst (ns.map .str)]) (slots := [.l "texts", .l "n", .l "names", .l "table", .l "places", .l "added", .l "item", .l "place"]) (loc₀ := [some (.f (.lst [.str t])), some (.f (.int ns.length)), some (.f (.lst (ns.map .str))), none, none, none, none, none]) (P := fun v => v = (.tup [.lst [.int (colIx ns t)], .lst (addedOf ns t)])) ?F (Sig.plain ["texts", "n", "names"] ["table", "places", "added", "item", "place"] rfl ?hb ?h1 ?h2 ?h3) ?bd (fun v e => by rw [e]; exact h)
  case F => exact ⟨⟨_, _, _, by rw [hg]; rfl⟩, by rw [hg]; kernel_rfl, rfl, rfl, rfl⟩
  case hb => exact all3 fun _ _ _ => rfl
  case h1 => rfl
  case h2 => decide
  case h3 => rfl
  intro C' ok' he hm hs hpl
  have hmem : t ∈ (tabGo ns 0 [] []).1 ↔ t ∈ ns := by rw [tab_mem]; simp
  walk_at "aw"
  refine fplaces_spec hg ok' hz hne ?_
  walk_at "aw"
  refine newList_M (xs := []) (by decide) ?_
  walk_at "aw"
  refine newList_M (xs := []) (by decide) ?_
  walk_at "aw"
  simp only [ForQ]
  walk_at "awn"
  refine ⟨fun q => ?_, fun q => ?_⟩
  · have hin : t ∈ ns := hmem.mp (of_decide_eq_true q)
    walk_at "awn"
    refine G_dict rfl (tab_get rfl (by simp) hin) ?_
    walk_at "awn"
    refine X_frzTo (loc' := [some (.f (.lst [.str t])), some (.f (.int ns.length)), some (.f (.lst (ns.map .str))), _, some (.f (.lst [.int ((0 + ns.findIdx (· == t) : Nat) : Int)])), some (.f (.lst [])), _, _]) hpl rfl ?_
    walk_at "awl"
    refine ⟨_, rfl, ?_⟩
    unfold addedOf colIx
    rw [if_pos hin, Nat.zero_add]
  · have hin : t ∉ ns := fun z => absurd (hmem.mpr z) (of_decide_eq_false q)
    have hne2 : (t != ("" : Str)) = true := bne_iff_ne.mpr ht
    walk_at "awn"
    rw [hne2]
    walk_at "awn"
    have htl := tab_len (ns := ns) (i := 0) (ks := []) (xs := [])
    refine D_set (ks := (tabGo ns 0 [] []).1) (xs := (tabGo ns 0 [] []).2) rfl (by simp at htl; omega) ?_
    walk_at "awn"
    refine X_frzTo (loc' := [some (.f (.lst [.str t])), some (.f (.int ns.length)), some (.f (.lst (ns.map .str))), _, some (.f (.lst [.int ((ns.length : Int) + 0)])), some (.f (.lst [.str t])), _, _]) hpl rfl ?_
    walk_at "awl"
    refine ⟨_, rfl, ?_⟩
    unfold addedOf colIx
    rw [if_neg hin, Int.add_zero, List.findIdx_eq_length_of_false]
    intro x hx
    exact beq_eq_false_iff_ne.mpr fun e => hin (e ▸ hx)
end

section
variable {g : Gl} {C : Cx} {X : XC} {σ : St} {n : Nat}
theorem colIx_le {ns : List Str} {t : Str} : colIx ns t ≤ ns.length := List.findIdx_le_length
theorem colIx_in {ns : List Str} {t : Str} (h : t ∈ ns) : colIx ns t < ns.length ∧ (ns.map FV.str).getD (colIx ns t) .none = .str t := by
  have h1 : colIx ns t < ns.length := List.findIdx_lt_length_of_exists ⟨t, h, beq_self_eq_true t⟩
  refine ⟨h1, ?_⟩
  have h2 : (ns[colIx ns t] == t) = true := List.findIdx_getElem (p := (· == t)) (w := h1)
  rw [List.getD_eq_getElem?_getD, List.getElem?_map, List.getElem?_eq_getElem h1, beq_iff_eq.mp h2]
  rfl
theorem colIx_out {ns : List Str} {t : Str} (h : t ∉ ns) : colIx ns t = ns.length :=
  List.findIdx_eq_length_of_false fun x hx => beq_eq_false_iff_ne.mpr fun e => h (e ▸ hx)
theorem positions_spec (hg : HK g) (ok : Ok g C (n + 3)) {ns : List Str} {t : Str} (hz : ns.length ≤ 1000) (hne : ∀ m ∈ ns, m ≠ ("" : Str)) (ht : t ≠ ("" : Str)) {Q : AV → St → Prop} (h : Q (.f (.tup [.lst [.int (colIx ns t)], .lst (addedOf ns t)])) σ) : AWh g C X (VR g.prog g.w) [.f (.vec "character" (.lst [.str t]) .none), .f (.int ns.length), .f (.lst (ns.map .str)), .f (.bool true)] (fun vs => call (.ref 409) vs) Q σ := by
  refine' call_none ok (xs := [.vec "character" (.lst [.str t]) .none, .int ns.length, .lst (ns.map .str), .bool true]) (slots := [.l "ix", .l "n", .l "names", .l "extend", .l "kind"]) (loc₀ := [some (.f (.vec "character" (.lst [.str t]) .none)), some (.f (.int ns.length)), some (.f (.lst (ns.map .str))), some (.f (.bool true)), none]) (P := fun v => v = (.tup [.lst [.int (colIx ns t)], .lst (addedOf ns t)])) ?F (Sig.plain ["ix", "n", "names", "extend"] ["kind"] rfl ?hb ?h1 ?h2 ?h3) ?bd (fun v e => by rw [e]; exact h)
  case F => exact ⟨⟨_, _, _, by rw [hg]; rfl⟩, by rw [hg]; kernel_rfl, rfl, rfl, rfl⟩
  case hb => exact all4 fun _ _ _ _ => rfl
  case h1 => rfl
  case h2 => decide
  case h3 => rfl
  intro C' ok' he hm hs hpl
  walk_at "awf"
  refine extending_spec hg ok' hz hne ht ?_
  walk_at "awf"
  exact ⟨_, rfl, rfl⟩
theorem place_spec (hg : HK g) (ok : Ok g C (n + 5)) {ns : List Str} {t : Str} (hz : ns.length ≤ 1000) (hne : ∀ m ∈ ns, m ≠ ("" : Str)) (ht : t ≠ ("" : Str)) {cols ri : List FV} {rk : Str} {Q : AV → St → Prop} (h : Q (.f (.tup [.int (colIx ns t), .str t])) σ) : AWh g C X (VR g.prog g.w) [.f (FV.dfr (ns.map .str) cols rk ri), .f (.vec "character" (.lst [.str t]) .none)] (fun vs => call (.ref 421) vs) Q σ := by
  refine' call_none ok (xs := [FV.dfr (ns.map .str) cols rk ri, .vec "character" (.lst [.str t]) .none]) (slots := [.l "df", .l "ix", .l "names", .l "places", .l "added", .l "place"]) (loc₀ := [some (.f (FV.dfr (ns.map .str) cols rk ri)), some (.f (.vec "character" (.lst [.str t]) .none)), none, none, none, none]) (P := fun v => v = (.tup [.int (colIx ns t), .str t])) ?F (Sig.plain ["df", "ix"] ["names", "places", "added", "place"] rfl ?hb ?h1 ?h2 ?h3) ?bd (fun v e => by rw [e]; exact h)
  case F => exact ⟨⟨_, _, _, by rw [hg]; rfl⟩, by rw [hg]; kernel_rfl, rfl, rfl, rfl⟩
  case hb => exact all2 fun _ _ => rfl
  case h1 => rfl
  case h2 => decide
  case h3 => rfl
  intro C' ok' he hm hs hpl
  walk_at "awf"
  refine colnames_spec hg ok' hz ?_
  walk_at "awf"
  rw [List.length_map, List.length_map]
  refine positions_spec hg ok' hz hne ht ?_
  have ha : t ∉ ns → addedOf ns t = [.str t] := fun hin => if_neg hin
  by_cases hin : t ∈ ns
  · obtain ⟨h1, h2⟩ := colIx_in hin
    refine AS_two ok' (.inl rfl) ?_
    walk_at "awf"
    refine by_true (decide_eq_true (by rw [List.length_map, List.length_map]; omega)) ?_
    walk_at "awf"
    refine G_at (by rw [List.length_map]; exact h1) (by rw [List.length_map]; omega) ?_
    rw [h2]
    walk_at "awf"
    exact ⟨_, rfl, rfl⟩
  · have h1 := colIx_out hin
    rw [ha hin]
    refine AS_two ok' (.inl rfl) ?_
    walk_at "awf"
    refine by_false (decide_eq_false (by rw [List.length_map, List.length_map]; omega)) ?_
    walk_at "awf"
    refine by_false (decide_eq_false (by rw [List.length_map, List.length_map]; omega)) ?_
    walk_at "awf"
    exact ⟨_, rfl, rfl⟩
end

section
variable {g : Gl} {C : Cx} {X : XC} {σ : St} {n : Nat}
theorem C_eqns {i : Str} {Q : AV → St → Prop} (h : Q (.bool false) σ) : AWh g C X (VR g.prog g.w) [.none, .str i] (val2 (compareOp .Eq)) Q σ :=
  AWh.here h fun Y Z W hh tk r vs hv Qc Ec q => by
    obtain ⟨v, u, rfl, h1, h2⟩ := vrs2 hv
    obtain ⟨t, rfl⟩ := vr_str h2
    cases vr_none h1
    exact EqNone.eq_none_str (q (.bool _) hh tk (fun _ _ e => e) (.f .bool))
theorem needed_spec (hg : HK g) (ok : Ok g C (n + 1)) {val : FV} {nm : Str} (hv : isN (.f val) = false) {Q : AV → St → Prop} (h : Q (.f (val)) σ) : AWh g C X (VR g.prog g.w) [.f (val), .f (.str nm)] (fun vs => call (.ref 259) vs) Q σ := by
  refine' call_none ok (xs := [val, .str nm]) (slots := [.l "value", .l "name"]) (loc₀ := [some (.f (val)), some (.f (.str nm))]) (P := fun v => v = (val)) ?F (Sig.plain ["value", "name"] [] rfl ?hb ?h1 ?h2 ?h3) ?bd (fun v e => by rw [e]; exact h)
  case F => exact ⟨⟨_, _, _, by rw [hg]; rfl⟩, by rw [hg]; kernel_rfl, rfl, rfl, rfl⟩
  case hb => exact all2 fun _ _ => rfl
  case h1 => rfl
  case h2 => decide
  case h3 => rfl
  intro C' ok' he hm hs hpl
  walk_at "awf"
  refine by_false hv ?_
  walk_at "awf"
  exact ⟨_, rfl, rfl⟩
theorem first_spec (hg : HK g) (ok : Ok g C (n + 5)) {b c : FV} {ns cols ri : List FV} {rk : Str} (hn : ns.length = cols.length) (hz : cols.length ≤ 1000) (hr : ri.length ≤ 1000) (hc : ∀ x ∈ cols, isCol ri.length x) {Q : AV → St → Prop} (h : Q (.f (FV.dfr ns cols rk ri)) σ) : AWh g C X (VR g.prog g.w) [.f (.lst [.tup [.none, FV.dfr ns cols rk ri], b, c])] (fun vs => call (.ref 435) vs) Q σ := by
  refine' call_none ok (xs := [.lst [.tup [.none, FV.dfr ns cols rk ri], b, c]]) (slots := [.l "args"]) (loc₀ := [some (.f (.lst [.tup [.none, FV.dfr ns cols rk ri], b, c]))]) (P := fun v => v = (FV.dfr ns cols rk ri)) ?F (Sig.plain ["args"] [] rfl ?hb ?h1 ?h2 ?h3) ?bd (fun v e => by rw [e]; exact h)
  case F => exact ⟨⟨_, _, _, by rw [hg]; rfl⟩, by rw [hg]; kernel_rfl, rfl, rfl, rfl⟩
  case hb => exact all1 fun _ => rfl
  case h1 => rfl
  case h2 => decide
  case h3 => rfl
  intro C' ok' he hm hs hpl
  walk_at "awf"
  refine isframe_yes hg ok' hn hz hr hc ?_
  walk_at "awf"
  exact ⟨_, rfl, rfl⟩
end

section
variable {g : Gl} {C : Cx} {X : XC} {σ : St} {n : Nat}
/-- Matching(formals, tags) of this law's one call -/
theorem matching_init (hg : HK g) (ok : Ok g C (n + 1)) {loc : List (Option AV)} {Q : AV → St → Prop}
    (h : Q (.ref 0) ⟨[.ins 216 ["formals", "tags", "used", "places"] [.f (.lst [.str "x", .str "name", .str "value"]), .f (.lst [.none, .none, .str "value"]), .ref 1, .ref 2], .lst [.int 0, .int 0, .int 0], .dct [] []], loc⟩) :
    AWh g C X (VR g.prog g.w) [.f (.lst [.str "x", .str "name", .str "value"]), .f (.lst [.none, .none, .str "value"])] (fun vs => call (.ref 216) vs) Q ⟨[], loc⟩ := by
  refine' call_class ok (ck_M hg) (slots := [.l "self", .l "formals", .l "tags"]) (loc₀ := [some (.ref 0), some (.f (.lst [.str "x", .str "name", .str "value"])), some (.f (.lst [.none, .none, .str "value"]))]) ?F (Sig.plain ["self", "formals", "tags"] [] rfl ?hb ?h1 ?h2 ?h3) ?bd
  case F => exact ⟨⟨_, _, _, by rw [hg]; rfl⟩, by rw [hg]; kernel_rfl, rfl, rfl, rfl⟩
  case hb => exact all3 fun _ _ _ => rfl
  case h1 => rfl
  case h2 => decide
  case h3 => rfl
  intro C' ok' he hm hs hpl
  walk_at "awl"
  refine B_mulL (x := .int 0) rfl (by decide) (by decide) ?_
  walk_at "awl"
  exact ⟨rfl, h⟩
theorem matching_exact (hg : HK g) (ok : Ok g C (n + 1)) {loc : List (Option AV)} {Q : AV → St → Prop} (h : Q .none ⟨mst [.int 0, .int 0, .int 2] ["value"] [.int 2], loc⟩) :
    AWh g C X (VR g.prog g.w) [.ref 0] (fun vs => call (.ref 180) vs) Q ⟨mst [.int 0, .int 0, .int 0] [] [], loc⟩ := by
  refine' call_all ok (slots := [.l "self", .l "name", .l "place"]) (loc₀ := [some (.ref 0), none, none]) ?F (Sig.plain ["self"] ["name", "place"] rfl ?hb ?h1 ?h2 ?h3) ?bd
  case F => exact ⟨⟨_, _, _, by rw [hg]; rfl⟩, by rw [hg]; kernel_rfl, rfl, rfl, rfl⟩
  case hb => exact all1 fun _ => rfl
  case h1 => rfl
  case h2 => decide
  case h3 => rfl
  intro C' ok' he hm hs hpl
  walk_at "awu"
  exact ⟨_, rfl, h⟩
end

section
variable {g : Gl} {C : Cx} {X : XC} {σ : St} {n : Nat}
theorem matching_partial_of (hg : HK g) (ok : Ok g C (n + 1)) {loc : List (Option AV)} {nm : Str} {Q : AV → St → Prop} (h : Q .none ⟨mst [.int 0, .int 0, .int 2] ["value"] [.int 2], loc⟩) :
    AWh g C X (VR g.prog g.w) [.ref 0, .str nm] (fun vs => call (.ref 194) vs) Q ⟨mst [.int 0, .int 0, .int 2] ["value"] [.int 2], loc⟩ := by
  refine' call_all ok (slots := [.l "self", .l "name", .l "place", .l "tag"]) (loc₀ := [some (.ref 0), some (.str nm), none, none]) ?F (Sig.plain ["self", "name"] ["place", "tag"] rfl ?hb ?h1 ?h2 ?h3) ?bd
  case F => exact ⟨⟨_, _, _, by rw [hg]; rfl⟩, by rw [hg]; kernel_rfl, rfl, rfl, rfl⟩
  case hb => exact all2 fun _ _ => rfl
  case h1 => rfl
  case h2 => decide
  case h3 => rfl
  intro C' ok' he hm hs hpl
  walk_at "awu"
  exact ⟨_, rfl, h⟩
theorem matching_partial (hg : HK g) (ok : Ok g C (n + 2)) {loc : List (Option AV)} {Q : AV → St → Prop} (h : Q .none ⟨mst [.int 0, .int 0, .int 2] ["value"] [.int 2], loc⟩) :
    AWh g C X (VR g.prog g.w) [.ref 0] (fun vs => call (.ref 187) vs) Q ⟨mst [.int 0, .int 0, .int 2] ["value"] [.int 2], loc⟩ := by
  refine' call_all ok (slots := [.l "self", .l "name"]) (loc₀ := [some (.ref 0), none]) ?F (Sig.plain ["self"] ["name"] rfl ?hb ?h1 ?h2 ?h3) ?bd
  case F => exact ⟨⟨_, _, _, by rw [hg]; rfl⟩, by rw [hg]; kernel_rfl, rfl, rfl, rfl⟩
  case hb => exact all1 fun _ => rfl
  case h1 => rfl
  case h2 => decide
  case h3 => rfl
  intro C' ok' he hm hs hpl
  walk_at "awu"
  refine matching_partial_of hg ok' ?_
  walk_at "awu"
  refine matching_partial_of hg ok' ?_
  walk_at "awu"
  exact ⟨_, rfl, h⟩
end

section
variable {g : Gl} {C : Cx} {X : XC} {σ : St} {n : Nat}
theorem free_a (hg : HK g) (ok : Ok g C (n + 1)) {loc : List (Option AV)} {ks : List Str} {xs : List AV} {Q : AV → St → Prop} (h : Q (.bool true) ⟨mst [.int 0, .int 0, .int 2] ks xs, loc⟩) :
    AWh g C X (VR g.prog g.w) [.ref 0, .int 0] (fun vs => call (.ref 208) vs) Q ⟨mst [.int 0, .int 0, .int 2] ks xs, loc⟩ := by
  refine' call_all ok (slots := [.l "self", .l "place"]) (loc₀ := [some (.ref 0), some (.int 0)]) ?F (Sig.plain ["self", "place"] [] rfl ?hb ?h1 ?h2 ?h3) ?bd
  case F => exact ⟨⟨_, _, _, by rw [hg]; rfl⟩, by rw [hg]; kernel_rfl, rfl, rfl, rfl⟩
  case hb => exact all2 fun _ _ => rfl
  case h1 => rfl
  case h2 => decide
  case h3 => rfl
  intro C' ok' he hm hs hpl
  walk_at "awu"
  exact ⟨_, rfl, h⟩
theorem free_b (hg : HK g) (ok : Ok g C (n + 1)) {loc : List (Option AV)} {ks : List Str} {xs : List AV} {Q : AV → St → Prop} (h : Q (.bool false) ⟨mst [.int 2, .int 0, .int 2] ks xs, loc⟩) :
    AWh g C X (VR g.prog g.w) [.ref 0, .int 0] (fun vs => call (.ref 208) vs) Q ⟨mst [.int 2, .int 0, .int 2] ks xs, loc⟩ := by
  refine' call_all ok (slots := [.l "self", .l "place"]) (loc₀ := [some (.ref 0), some (.int 0)]) ?F (Sig.plain ["self", "place"] [] rfl ?hb ?h1 ?h2 ?h3) ?bd
  case F => exact ⟨⟨_, _, _, by rw [hg]; rfl⟩, by rw [hg]; kernel_rfl, rfl, rfl, rfl⟩
  case hb => exact all2 fun _ _ => rfl
  case h1 => rfl
  case h2 => decide
  case h3 => rfl
  intro C' ok' he hm hs hpl
  walk_at "awu"
  exact ⟨_, rfl, h⟩
theorem free_c (hg : HK g) (ok : Ok g C (n + 1)) {loc : List (Option AV)} {ks : List Str} {xs : List AV} {Q : AV → St → Prop} (h : Q (.bool true) ⟨mst [.int 2, .int 0, .int 2] ks xs, loc⟩) :
    AWh g C X (VR g.prog g.w) [.ref 0, .int 1] (fun vs => call (.ref 208) vs) Q ⟨mst [.int 2, .int 0, .int 2] ks xs, loc⟩ := by
  refine' call_all ok (slots := [.l "self", .l "place"]) (loc₀ := [some (.ref 0), some (.int 1)]) ?F (Sig.plain ["self", "place"] [] rfl ?hb ?h1 ?h2 ?h3) ?bd
  case F => exact ⟨⟨_, _, _, by rw [hg]; rfl⟩, by rw [hg]; kernel_rfl, rfl, rfl, rfl⟩
  case hb => exact all2 fun _ _ => rfl
  case h1 => rfl
  case h2 => decide
  case h3 => rfl
  intro C' ok' he hm hs hpl
  walk_at "awu"
  exact ⟨_, rfl, h⟩
theorem matching_positional (hg : HK g) (ok : Ok g C (n + 2)) {loc : List (Option AV)} {Q : AV → St → Prop} (h : Q .none ⟨mst [.int 2, .int 2, .int 2] ["value", "x", "name"] [.int 2, .int 0, .int 1], loc⟩) :
    AWh g C X (VR g.prog g.w) [.ref 0] (fun vs => call (.ref 201) vs) Q ⟨mst [.int 0, .int 0, .int 2] ["value"] [.int 2], loc⟩ := by
  refine' call_all ok (slots := [.l "self", .l "place", .l "name"]) (loc₀ := [some (.ref 0), none, none]) ?F (Sig.plain ["self"] ["place", "name"] rfl ?hb ?h1 ?h2 ?h3) ?bd
  case F => exact ⟨⟨_, _, _, by rw [hg]; rfl⟩, by rw [hg]; kernel_rfl, rfl, rfl, rfl⟩
  case hb => exact all1 fun _ => rfl
  case h1 => rfl
  case h2 => decide
  case h3 => rfl
  intro C' ok' he hm hs hpl
  walk_at "awu"
  refine X_while 1 ?_
  walk_at "awu"
  refine free_a hg ok' ?_
  walk_at "awu"
  refine X_while 2 ?_
  walk_at "awu"
  refine free_b (ks := ["value", "x"]) (xs := [.int 2, .int 0]) hg ok' ?_
  walk_at "awu"
  refine free_c (ks := ["value", "x"]) (xs := [.int 2, .int 0]) hg ok' ?_
  walk_at "awu"
  exact ⟨_, rfl, h⟩
end

section
variable {g : Gl} {C : Cx} {X : XC} {σ : St} {n : Nat}
theorem matching_rest (hg : HK g) (ok : Ok g C (n + 1)) {loc : List (Option AV)} {Q : AV → St → Prop} (h : Q (.f (.lst [])) ⟨mst [.int 2, .int 2, .int 2] ["value", "x", "name"] [.int 2, .int 0, .int 1], loc⟩) :
    AWh g C X (VR g.prog g.w) [.ref 0] (fun vs => call (.ref 213) vs) Q ⟨mst [.int 2, .int 2, .int 2] ["value", "x", "name"] [.int 2, .int 0, .int 1], loc⟩ := by
  refine' call_allC ok (ps := ["self"]) (os := []) (ds := []) (dx := []) ?F ?S rfl ?bd
  case F => exact ⟨⟨_, _, _, by rw [hg]; rfl⟩, by rw [hg]; kernel_rfl, rfl, rfl, rfl⟩
  case S => exact ⟨fun s vs hK hv => by obtain ⟨a, rfl⟩ := len1 hv; exact BindsTo.of_eq rfl, fun _ _ _ => .nil, by decide +kernel, by decide, by decide +kernel, by decide, by decide +kernel, by decide +kernel⟩
  intro C' ok' he hm hs hpl
  replace hs : C'.slots = [.c "self" (C'.L + 1)] := hs
  change AX _ _ _ _ _ ⟨_, [some (.ref 0)]⟩
  walk_at "awu"
  intro C₂ ok₂ he₂ hs₂ hpl₂
  obtain ⟨Lc, he₂⟩ := he₂
  rw [he] at he₂
  rw [hs] at hs₂
  replace hs₂ : C₂.slots = [.l "place", .c "self" (C'.L + 1)] := hs₂
  rw [hs]
  change CompQ _ _ _ _ [some (.ref 0)] _ _ _ _
  walk_at "awu"
  exact ⟨_, rfl, h⟩
end

section
variable {g : Gl} {C : Cx} {X : XC} {σ : St} {n : Nat}
theorem match_names_spec (hg : HK g) (ok : Ok g C (n + 3)) {df ix val sh : FV} {Q : AV → St → Prop} (h : Q (.f (.tup [.dct ["value", "x", "name"] [.int 2, .int 0, .int 1], .lst []])) σ) :
    AWh g C X (VR g.prog g.w) [.f (.lst [.str "x", .str "name", .str "value"]), .f (.lst [.tup [.none, df], .tup [.none, ix], .tup [.str "value", val]]), .f sh] (fun vs => call (.ref 252) vs) Q σ := by
  refine' call_none ok (xs := [.lst [.str "x", .str "name", .str "value"], .lst [.tup [.none, df], .tup [.none, ix], .tup [.str "value", val]], sh]) (slots := [.l "formals", .l "args", .l "show", .l "matching", .l "rest"])
    (loc₀ := [some (.f (.lst [.str "x", .str "name", .str "value"])), some (.f (.lst [.tup [.none, df], .tup [.none, ix], .tup [.str "value", val]])), some (.f sh), none, none]) (P := fun v => v = .tup [.dct ["value", "x", "name"] [.int 2, .int 0, .int 1], .lst []]) ?F (Sig.dflt ["formals", "args", "show"] ["matching", "rest"] [] [] ?hd rfl ?hb ?h1 ?h2 ?h3) ?bd (fun v e => by rw [e]; exact h)
  case F => exact ⟨⟨_, _, _, by rw [hg]; rfl⟩, by rw [hg]; kernel_rfl, rfl, rfl, rfl⟩
  case hd => intro g Z φ; exact .nil
  case hb => intro s vs hK hv; obtain ⟨a, b, c, rfl⟩ := len3 hv; exact binds_K hK rfl (by rw [hg]; rfl) rfl rfl rfl
  case h1 => rfl
  case h2 => decide
  case h3 => rfl
  intro C' ok' he hm hs hpl
  walk_at "awm"
  intro C₂ ok₂ he₂ hs₂ hpl₂
  obtain ⟨Lc, he₂⟩ := he₂
  rw [he] at he₂
  rw [hs] at hs₂
  replace hs₂ : C₂.slots = [.l "arg"] := hs₂
  rw [hs]
  change CompQ _ _ _ _ [] _ _ _ _
  walk_at "awm"
  refine matching_init hg ok' ?_
  walk_at "awm"
  refine matching_exact hg ok' ?_
  walk_at "awm"
  refine matching_partial hg ok' ?_
  walk_at "awm"
  refine matching_positional hg ok' ?_
  walk_at "awm"
  refine matching_rest hg ok' ?_
  walk_at "awm"
  refine X_frzTo (loc' := [_, _, _, some (.f (.ins 216 ["formals", "tags", "used", "places"] [.lst [.str "x", .str "name", .str "value"], .lst [.none, .none, .str "value"], .lst [.int 2, .int 2, .int 2], .dct ["value", "x", "name"] [.int 2, .int 0, .int 1]])), some (.f (.lst []))]) hpl rfl ?_
  walk_at "awu"
  exact ⟨_, rfl, rfl⟩
end

section
variable {g : Gl} {C : Cx} {X : XC} {σ : St} {n : Nat}
theorem take_spec (hg : HK g) (ok : Ok g C (n + 4)) {df ix val : FV} {Q : AV → St → Prop} (h : Q (.f (.lst [df, ix, val])) σ) :
    AWh g C X (VR g.prog g.w) [.f (.lst [.tup [.none, df], .tup [.none, ix], .tup [.str "value", val]]), .f (.lst [.str "x", .str "name", .str "value"])] (fun vs => call (.ref 265) vs) Q σ := by
  refine' call_noneC ok (xs := [.lst [.tup [.none, df], .tup [.none, ix], .tup [.str "value", val]], .lst [.str "x", .str "name", .str "value"]]) (dx := [.none]) (ds := [.none]) (ps := ["args", "formals", "show"]) (os := ["formals", "show", "places", "rest", "values", "name"])
    (P := fun v => v = .lst [df, ix, val]) ?F ?S rfl ?bd (fun v e => by rw [e]; exact h)
  case F => exact ⟨⟨_, _, _, by rw [hg]; rfl⟩, by rw [hg]; kernel_rfl, rfl, rfl, rfl⟩
  case S => exact ⟨fun s vs hK hv => by obtain ⟨a, b, rfl⟩ := len2 (Nat.succ.inj hv); exact binds_K hK rfl (by rw [hg]; rfl) rfl rfl rfl, fun _ _ _ => .cons (.f .none) .nil, by decide +kernel, by decide, by decide +kernel, by decide, by decide +kernel, by decide +kernel⟩
  intro C' ok' he hm hs hpl
  replace hs : C'.slots = [.c "args" (C'.L + 1), .l "formals", .l "show", .l "places", .l "rest", .l "values", .l "name"] := hs
  change AX _ _ _ _ _ ⟨_, [some (.f (.lst [.tup [.none, df], .tup [.none, ix], .tup [.str "value", val]])), some (.f (.lst [.str "x", .str "name", .str "value"])), some .none, none, none, none, none]⟩
  walk_at "awn"
  refine L_listF rfl (by decide) ?_
  walk_at "awn"
  refine match_names_spec hg ok' ?_
  refine AS_two ok' (.inl rfl) ?_
  walk_at "awn"
  refine newList_M (xs := []) (by decide) ?_
  walk_at "awm"
  refine X_frzTo (loc' := [_, _, _, _, _, some (.f (.lst [df, ix, val])), _]) hpl rfl ?_
  walk_at "awu"
  exact ⟨_, rfl, rfl⟩
end

section
variable {g : Gl} {C : Cx} {X : XC} {σ : St} {n : Nat}
theorem Ok.le {m : Nat} (ok : Ok g C n) (h : m ≤ n) : Ok g C m :=
  { B := ok.B, X := ok.X, T := ok.T, fr := ok.fr, fL := ok.fL, fk := ok.fk, hh := ok.hh, ek := ok.ek, eg := ok.eg, eb := ok.eb, el := ok.el, ef := ok.ef, kl := ok.kl, kc := ok.kc, nd := ok.nd, rd := by have := ok.rd; omega, ru := by have := ok.ru; omega }
inductive All2 {α β : Type} (R : α → β → Prop) : List α → List β → Prop
  | nil : All2 R [] []
  | cons {a : α} {b : β} {as : List α} {bs : List β} : R a b → All2 R as bs → All2 R (a :: as) (b :: bs)
theorem All2.imp {α β : Type} {R S : α → β → Prop} (k : ∀ a b, R a b → S a b) {as : List α} {bs : List β} (h : All2 R as bs) : All2 S as bs := by
  induction h with
  | nil => exact .nil
  | cons a _ ih => exact .cons (k _ _ a) ih
theorem All2.len {α β : Type} {R : α → β → Prop} {as : List α} {bs : List β} (h : All2 R as bs) : as.length = bs.length := by
  induction h with
  | nil => rfl
  | cons _ _ ih => exact congrArg (· + 1) ih
theorem All2.left {α β γ : Type} {R : γ → β → Prop} {f : α → γ} {as : List α} {bs : List β} (h : All2 (fun a b => R (f a) b) as bs) : All2 R (as.map f) bs := by
  induction h with
  | nil => exact .nil
  | cons a _ ih => exact .cons a ih
/-- a comprehension by a relation -/
theorem comp_rel {elt : Expr} {cv : List (Option AV)} {Qend : List AV → List HO → Prop} {H : List HO} {ys : List FV} : ∀ {xs : List FV} {acc : List AV}, All2 (fun x y => AW g C XC.no (eval elt C.env) (fun v σ' => v = .f y ∧ σ' = ⟨H, some (.f x) :: cv⟩) ⟨H, some (.f x) :: cv⟩) xs ys →
    Qend (acc ++ ys.map .f) H → CompQ g C elt [] cv Qend xs acc H := by
  intro xs acc k
  induction k generalizing acc with
  | nil => intro h; simpa [CompQ] using h
  | cons a _ ih =>
    intro h
    unfold CompQ
    refine a.mono ?_
    rintro v σ' ⟨rfl, rfl⟩
    refine ⟨rfl, ih ?_⟩
    rw [List.append_assoc]; exact h
theorem ce_rel {Q : AV → St → Prop} {loc : List (Option AV)} {H : List HO} {ys : List FV} (h : Q (.f (.lst ys)) ⟨H, loc⟩) : CE Q loc (([] : List AV) ++ ys.map .f) H := .inl ⟨ys, by rw [List.nil_append], h⟩

/-- what _law_told answers -/
noncomputable def ToldC (g : Gl) (n : Nat) (v t : FV) : Prop := ∀ C X σ Q, Ok g C n → Q (.f t) σ → AWh g C X (VR g.prog g.w) [.f v] (fun vs => call (.ref 459) vs) Q σ
theorem ToldC.le {v t : FV} {m : Nat} (h : ToldC g n v t) (k : n ≤ m) : ToldC g m v t := fun C X σ Q ok q => h C X σ Q (ok.le k) q
theorem told_nul (hg : HK g) : ToldC g (n + 1) .nul (.lst [.str "NULL", .lst [], .lst []]) := by
  intro C X σ Q ok h
  refine' call_noneC ok (xs := [.nul]) (dx := []) (ds := []) (ps := ["v"]) (os := ["inside", "beside"]) (P := fun v => v = .lst [.str "NULL", .lst [], .lst []]) ?F ?S rfl ?bd (fun v e => by rw [e]; exact h)
  case F => exact ⟨⟨_, _, _, by rw [hg]; rfl⟩, by rw [hg]; kernel_rfl, rfl, rfl, rfl⟩
  case S => exact ⟨fun s vs hK hv => by obtain ⟨a, rfl⟩ := len1 hv; exact BindsTo.of_eq rfl, fun _ _ _ => .nil, by decide +kernel, by decide, by decide +kernel, by decide, by decide +kernel, by decide +kernel⟩
  intro C' ok' he hm hs hpl
  replace hs : C'.slots = [.c "v" (C'.L + 1), .l "inside", .l "beside"] := hs
  change AX _ _ _ _ _ ⟨_, [some (.f .nul), none, none]⟩
  walk_at "awu"
  exact ⟨_, rfl, rfl⟩
theorem told_vec (hg : HK g) {k : Str} {its its' : List FV} {at' : FV} {prs : List FV} (hk : k ≠ "NULL") (hz : its.length ≤ 1000)
    (hin : (k ≠ "list" ∧ its' = its) ∨ (k = "list" ∧ All2 (ToldC g n) its its'))
    (hat : (at' = .none ∧ prs = []) ∨ (∃ (ks srt : List Str) (xs : List FV), at' = .dct ks xs ∧ ks.length < 64 ∧ srt.length < 64 ∧ (∀ ss : List Str, ss.Perm ks → sortedS ss = true → ss = srt) ∧
      All2 (fun nm p => ∃ y y', fieldOf ks xs nm = some y ∧ ToldC g n y y' ∧ p = .lst [.str nm, y']) srt prs)) :
    ToldC g (n + 1) (.vec k (.lst its) at') (.lst [.str k, .lst its', .lst prs]) := by
  intro C X σ Q ok h
  refine' call_noneC ok (xs := [.vec k (.lst its) at']) (dx := []) (ds := []) (ps := ["v"]) (os := ["inside", "beside"]) (P := fun v => v = .lst [.str k, .lst its', .lst prs]) ?F ?S rfl ?bd (fun v e => by rw [e]; exact h)
  case F => exact ⟨⟨_, _, _, by rw [hg]; rfl⟩, by rw [hg]; kernel_rfl, rfl, rfl, rfl⟩
  case S => exact ⟨fun s vs hK hv => by obtain ⟨a, rfl⟩ := len1 hv; exact BindsTo.of_eq rfl, fun _ _ _ => .nil, by decide +kernel, by decide, by decide +kernel, by decide, by decide +kernel, by decide +kernel⟩
  intro C' ok' he hm hs hpl
  replace hs : C'.slots = [.c "v" (C'.L + 1), .l "inside", .l "beside"] := hs
  change AX _ _ _ _ _ ⟨_, [some (.f (.vec k (.lst its) at')), none, none]⟩
  walk_at "awn"
  refine by_false (beq_eq_false_iff_ne.mpr hk) ?_
  iterate 4 kbo_bools
  refine AWg.mono (Q := fun b σ' => b = .f (.lst its') ∧ σ' = ⟨[], [some (.f (.vec k (.lst its) at')), none, none]⟩) ?_ ?_
  · walk_at "awn"
    rcases hin with ⟨hl, rfl⟩ | ⟨hl, hin⟩
    · refine by_false (beq_eq_false_iff_ne.mpr hl) ?_
      walk_at "awn"
      refine L_listF rfl (by omega) ?_
      exact ⟨rfl, rfl⟩
    · refine by_true (beq_iff_eq.mpr hl) ?_
      walk_at "awn"
      intro C₂ ok₂ he₂ hs₂ hpl₂
      obtain ⟨Lc, he₂⟩ := he₂
      rw [he] at he₂
      rw [hs] at hs₂
      replace hs₂ : C₂.slots = [.l "one", .d "v" (C'.L + 1)] := hs₂
      rw [hs]
      change CompQ _ _ _ _ [some (.f (.vec k (.lst its) at'))] _ _ _ _
      refine comp_rel (ys := its') (hin.imp fun x y a => ?_) (ce_rel ⟨rfl, rfl⟩)
      walk_at "awn"
      exact a _ _ _ _ ok₂ ⟨rfl, rfl⟩
  · rintro b σ' ⟨rfl, rfl⟩
    iterate 4 kbo_bools
    refine AWg.mono (Q := fun b σ' => b = .f (.lst prs) ∧ σ' = ⟨[], [some (.f (.vec k (.lst its) at')), some (.f (.lst its')), none]⟩) ?_ ?_
    · rcases hat with ⟨rfl, rfl⟩ | ⟨ks, srt, xs, rfl, hl1, hl2, hsrt, hat⟩
      · walk_at "awl"
        exact ⟨rfl, rfl⟩
      · walk_at "awl"
        refine L_sorted ok' rfl hl1 hsrt ?_
        walk_at "awl"
        intro C₂ ok₂ he₂ hs₂ hpl₂
        obtain ⟨Lc, he₂⟩ := he₂
        rw [he] at he₂
        rw [hs] at hs₂
        replace hs₂ : C₂.slots = [.l "name", .c "v" (C'.L + 1)] := hs₂
        rw [hs]
        change CompQ _ _ _ _ [some (.f (.vec k (.lst its) (.dct ks xs)))] _ _ _ _
        refine comp_rel (ys := prs) (All2.left (hat.imp fun nm p a => ?_)) (ce_rel ⟨rfl, rfl⟩)
        obtain ⟨y, y', h1, h2, rfl⟩ := a
        walk_at "awl"
        refine G_dict (y := .f y) rfl (by rw [fieldOf_map, h1]; rfl) ?_
        walk_at "awl"
        refine h2 _ _ _ _ ok₂ ?_
        walk_at "awl"
        exact ⟨rfl, rfl⟩
    · rintro b σ' ⟨rfl, rfl⟩
      walk_at "awl"
      exact ⟨_, rfl, rfl⟩
end

section
variable {g : Gl} {C : Cx} {X : XC} {σ : St} {n : Nat}
/-- a value of c items goes into r rows -/
noncomputable def fits (c r : Nat) : Prop := c = r ∨ (0 < c ∧ c < r ∧ r % c = 0)
noncomputable def fitItems (its : List FV) (r : Nat) : List FV := (List.range r).map fun j => its.getD (j % its.length) .none
theorem fit_same (its : List FV) : fitItems its its.length = its := by
  unfold fitItems
  refine List.ext_getElem (by simp) fun i h1 h2 => ?_
  rw [List.getElem_map, List.getElem_range, Nat.mod_eq_of_lt h2, List.getD_eq_getElem?_getD, List.getElem?_eq_getElem h2]
  rfl
theorem All2.right {α β : Type} {R : α → β → Prop} {f : α → β} : ∀ {as : List α}, (∀ a ∈ as, R a (f a)) → All2 R as (as.map f)
  | [], _ => .nil
  | a :: as, h => .cons (h a (.head _)) (All2.right fun b hb => h b (.tail _ hb))
theorem str_small {m : Nat} (hm : m ≤ 1000) : (Str.ofString (toString (m : Int))).length ≤ 4 := by
  have : ∀ m : Fin 1001, (Str.ofString (toString ((m : Nat) : Int))).length ≤ 4 := by decide +kernel
  exact this ⟨m, Nat.lt_succ_of_le hm⟩
theorem fitted_spec (hg : HK g) (ok : Ok g C (n + 4)) {k : Str} {its : List FV} {at' : At} (hk : k ≠ "list" ∨ at' = .none) (hz : its.length ≤ 1000) {rows : Nat} (hr : rows ≤ 1000) {P' : Str → St → Prop} {Q : AV → St → Prop}
    (hX : ¬ fits its.length rows → P' (refMsg its.length rows) σ) (hQ : fits its.length rows → Q (.f (.vec k (.lst (fitItems its rows)) (At.fv at'.kept))) σ) :
    AWh g C (XR g C P') (VR g.prog g.w) [.f (.vec k (.lst its) (At.fv at')), .f (.int rows)] (fun vs => call (.ref 414) vs) Q σ := by
  refine' call_noneCX ok (xs := [.vec k (.lst its) (At.fv at'), .int rows]) (dx := []) (ds := []) (ps := ["value", "rows"]) (os := ["value", "rows"]) (mk := fun C' => XF g C' fun m => ¬ fits its.length rows ∧ m = refMsg its.length rows) (PX := fun m => ¬ fits its.length rows ∧ m = refMsg its.length rows)
    (P := fun v => fits its.length rows ∧ v = .vec k (.lst (fitItems its rows)) (At.fv at'.kept)) ?F ?S rfl way_F (fun m hm => by rw [hm.2]; exact hX hm.1) ?bd (fun v e => by rw [e.2]; exact hQ e.1)
  case F => exact ⟨⟨_, _, _, by rw [hg]; rfl⟩, by rw [hg]; kernel_rfl, rfl, rfl, rfl⟩
  case S => exact ⟨fun s vs hK hv => by obtain ⟨a, b, rfl⟩ := len2 hv; exact BindsTo.of_eq rfl, fun _ _ _ => .nil, by decide +kernel, by decide, by decide +kernel, by decide, by decide +kernel, by decide +kernel⟩
  intro C' ok' he hm hs hpl
  replace hs : C'.slots = [.c "count" (C'.L + 1), .l "value", .l "rows"] := hs
  change AX _ _ _ _ _ ⟨_, [none, some (.f (.vec k (.lst its) (At.fv at'))), some (.f (.int rows))]⟩
  walk_at "awu"
  refine isvec_spec hg ok' ?_
  walk_at "awu"
  have fr : ∀ {Q' : AV → St → Prop} {σ' : St}, Q' (.f (.bool false)) σ' → AWh g C' (XF g C' fun m => ¬ fits its.length rows ∧ m = refMsg its.length rows) (VR g.prog g.w) [.f (.vec k (.lst its) (At.fv at'))] (fun vs => call (.ref 303) vs) Q' σ' := by
    intro Q' σ' h
    by_cases hl : k = "list"
    · rcases hk with hk | rfl
      · exact absurd hl hk
      · subst hl
        exact isframe_no2 hg ok' h
    · exact isframe_no1 hg ok' hl h
  refine fr ?_
  walk_at "awu"
  rw [List.length_map]
  have e1 : ((its.length : Int) == (rows : Int)) = decide (its.length = rows) := by
    by_cases h : its.length = rows
    · rw [h]; simp
    · rw [decide_eq_false h]; exact beq_eq_false_iff_ne.mpr fun e => h (Int.ofNat.inj e)
  rw [e1]
  refine ⟨fun q => ?_, fun q => ?_⟩
  · have hq := of_decide_eq_true q
    walk_at "awu"
    refine kept_spec hg ok' ?_
    walk_at "awu"
    refine vec_F3 hg ok' ?_
    walk_at "awu"
    refine ⟨_, rfl, .inl hq, ?_⟩
    rw [← hq, fit_same]
  · have hq := of_decide_eq_false q
    iterate 4 kbo_bools
    refine AWg.cut (Q' := fun b σ' => σ' = ⟨[], [some (.int its.length), some (.f (.vec k (.lst its) (At.fv at'))), some (.f (.int rows))]⟩ ∧ (b = true → ¬ fits its.length rows) ∧ (b = false → fits its.length rows)) (fun Q1 hQ1 => ?_) ?_
    · refine T_or ?_
      walk_at "awu"
      refine ⟨fun q => ?_, fun q => ?_⟩
      · have := beq_iff_eq.mp q
        exact hQ1 _ _ ⟨rfl, fun _ hf => hf.elim hq fun h => Nat.ne_of_gt h.1 (Int.ofNat_eq_zero.mp this), fun h => nomatch h⟩
      have h1 := beq_eq_false_iff_ne.mp q
      refine T_or ?_
      walk_at "awu"
      refine ⟨fun q => ?_, fun q => ?_⟩
      · have := of_decide_eq_true q
        exact hQ1 _ _ ⟨rfl, fun _ hf => hf.elim hq fun h => absurd h.2.1 (Nat.lt_asymm (Int.ofNat_lt.mp this)), fun h => nomatch h⟩
      have h2 := of_decide_eq_false q
      refine T_or ?_
      walk_at "awu"
      refine B_mod (i := rows) (j := its.length) h1 ?_
      walk_at "awu"
      have e2 : ((rows : Int).fmod (its.length : Int)) = ((rows % its.length : Nat) : Int) := fmod_n
      rw [e2]
      refine ⟨fun q => ?_, fun q => ?_⟩
      · have h3 := bne_iff_ne.mp q
        exact hQ1 _ _ ⟨rfl, fun _ hf => hf.elim hq fun h => int_ne (b := 0) h3 h.2.2, fun h => nomatch h⟩
      · have h3 : ((rows % its.length : Nat) : Int) = 0 := by simpa using q
        walk_at "awu"
        exact hQ1 _ _ ⟨rfl, (fun h => nomatch h), fun _ => .inr ⟨Nat.pos_of_ne_zero (int_ne (b := 0) h1), Nat.lt_of_le_of_ne (Int.ofNat_le.mp (Int.not_lt.mp h2)) hq, Int.ofNat_eq_zero.mp h3⟩⟩
    · rintro b σ' ⟨rfl, k1, k2⟩
      refine ⟨fun q => ?_, fun q => ?_⟩
      · have nf := k1 q
        refine X_cons ?_
        refine X_raise hg ok' ?_
        refine N_g (gi_Refusal hg) he ok' ⟨rfl, ?_⟩
        walk_at "awu"
        refine R_fstr ?_
        have c4 : (if (its.length : Int) = 1 then (Str.ofString "") else Str.ofString "s").length ≤ 1 := by split <;> decide
        have m0 := sadd Str.empty (a := 0) (t := Str.ofString "replacement has ") (b := 16) (by decide) (by decide)
        have m1 := sadd _ m0 (str_small hz)
        have m2 := sadd _ m1 (t := Str.ofString " row") (b := 4) (by decide)
        have m3 := sadd _ m2 c4
        have m4 := sadd _ m3 (t := Str.ofString ", data has ") (b := 11) (by decide)
        have m5 := sadd _ m4 (str_small hr)
        refine R_joinE (R_joinC ?_)
        walk_at "awu"
        refine ⟨Nat.le_trans m0 (by decide), ?_⟩
        refine R_joinEE (R_joinC (R_fmt ?_))
        walk_at "awu"
        refine .inr ⟨_, rfl, log_n hz, _, rfl, Nat.le_trans m1 (by decide), ?_⟩
        refine R_joinEE (R_joinC ?_)
        walk_at "awu"
        refine ⟨Nat.le_trans m2 (by decide), ?_⟩
        refine R_joinEE (R_joinC (R_fmt ?_))
        refine AWg.cut (Q' := fun v σ₁ => v = .str (if (its.length : Int) = 1 then "" else "s") ∧ σ₁ = ⟨[], [some (.int its.length), some (.f (.vec k (.lst its) (At.fv at'))), some (.f (.int rows))]⟩) (fun Q2 hQ2 => ?_) ?_
        · walk_at "awu"
          refine ⟨fun q => ?_, fun q => ?_⟩
          · walk_at "awu"
            exact hQ2 _ _ ⟨by rw [if_pos (beq_iff_eq.mp q)], rfl⟩
          · walk_at "awu"
            exact hQ2 _ _ ⟨by rw [if_neg (beq_eq_false_iff_ne.mp q)], rfl⟩
        rintro v σ₁ ⟨rfl, rfl⟩
        refine .inl ⟨_, rfl, Nat.le_trans c4 (by decide), _, rfl, Nat.le_trans m3 (by decide), ?_⟩
        refine R_joinEE (R_joinC ?_)
        walk_at "awu"
        refine ⟨Nat.le_trans m4 (by decide), ?_⟩
        refine R_joinEE (R_joinC (R_fmt ?_))
        walk_at "awu"
        refine .inr ⟨_, rfl, log_n hr, _, rfl, Nat.le_trans m5 (by decide), ?_⟩
        refine R_joinE0 (R_join0 (Nat.le_trans m5 (by decide)) ?_)
        walk_at "awu"
        exact ⟨_, rfl, nf, refMsg_eq _ _⟩
      · have hf := k2 q
        refine X_nil (K_next ?_)
        walk_at "awu"
        intro C₂ ok₂ he₂ hs₂ hpl₂
        obtain ⟨Lc, he₂⟩ := he₂
        rw [he] at he₂
        rw [hs] at hs₂
        replace hs₂ : C₂.slots = [.l "place", .c "count" (C'.L + 1)] := hs₂
        rw [hs]
        change CompQ _ _ _ _ [some (.int its.length)] _ _ _ _
        have hc0 : 0 < its.length := hf.elim (fun h => absurd h hq) fun h => h.1
        have em : ∀ j : Nat, ((j : Int).fmod (its.length : Int)) = ((j % its.length : Nat) : Int) := fun j => fmod_n
        have er : rangeL 0 (rows : Int) = (List.range rows).map fun (j : Nat) => .int (j : Int) := by
          unfold rangeL
          rw [Int.sub_zero, Int.toNat_natCast]
          exact List.map_congr_left fun j _ => by rw [Int.zero_add]
        rw [er]
        refine comp_rel (ys := (List.range rows).map fun (j : Nat) => .int ((j % its.length : Nat) : Int)) (All2.left (All2.right fun j hj => ?_)) (ce_rel ?_)
        · walk_at "awu"
          refine B_mod (i := (j : Int)) (j := its.length) (Int.ne_of_gt (Int.ofNat_lt.mpr hc0)) ?_
          rw [em]
          exact ⟨rfl, rfl⟩
        · walk_at "awu"
          have ep : ((List.range rows).map fun (j : Nat) => FV.int ((j % its.length : Nat) : Int)) = ((List.range rows).map fun j => j % its.length).map fun (p : Nat) => FV.int (p : Int) := by rw [List.map_map]; rfl
          rw [ep]
          refine pick_spec hg ok' hz (by rw [List.length_map, List.length_range]; exact hr) (fun p hp => ?_) ?_
          · obtain ⟨j, _, rfl⟩ := List.mem_map.mp hp
            exact Nat.mod_lt _ hc0
          · walk_at "awu"
            exact ⟨_, rfl, hf, by unfold fitItems; rw [List.map_map]; rfl⟩
end

section
variable {g : Gl} {C : Cx} {X : XC} {σ : St} {n : Nat}
theorem length_spec (hg : HK g) (ok : Ok g C (n + 1)) {k : Str} {its : List FV} {at' : FV} (hk : k ≠ "NULL") (hz : its.length ≤ 1000) {Q : AV → St → Prop} (h : Q (.f (.int its.length)) σ) : AWh g C X (VR g.prog g.w) [.f (.vec k (.lst its) at')] (fun vs => call (.ref 145) vs) Q σ := by
  refine' call_none ok (xs := [.vec k (.lst its) at']) (slots := [.l "v", .l "kind"]) (loc₀ := [some (.f (.vec k (.lst its) at')), none]) (P := fun v => v = .int its.length) ?F (Sig.plain ["v"] ["kind"] rfl ?hb ?h1 ?h2 ?h3) ?bd (fun v e => by rw [e]; exact h)
  case F => exact ⟨⟨_, _, _, by rw [hg]; rfl⟩, by rw [hg]; kernel_rfl, rfl, rfl, rfl⟩
  case hb => exact all1 fun _ => rfl
  case h1 => rfl
  case h2 => decide
  case h3 => rfl
  intro C' ok' he hm hs hpl
  walk_at "awu"
  refine by_false (beq_eq_false_iff_ne.mpr hk) ?_
  walk_at "awu"
  exact ⟨_, rfl, by rw [List.length_map]⟩
theorem plain_rows0 (hg : HK g) (ok : Ok g C (n + 3)) {Q : AV → St → Prop} (h : Q (.f (.vec "integer" (.lst []) .none)) σ) : AWh g C X (VR g.prog g.w) [.f (.int 0)] (fun vs => call (.ref 315) vs) Q σ := by
  refine' call_none ok (xs := [.int 0]) (slots := [.l "count"]) (loc₀ := [some (.f (.int 0))]) (P := fun v => v = .vec "integer" (.lst []) .none) ?F (Sig.plain ["count"] [] rfl ?hb ?h1 ?h2 ?h3) ?bd (fun v e => by rw [e]; exact h)
  case F => exact ⟨⟨_, _, _, by rw [hg]; rfl⟩, by rw [hg]; kernel_rfl, rfl, rfl, rfl⟩
  case hb => exact all1 fun _ => rfl
  case h1 => rfl
  case h2 => decide
  case h3 => rfl
  intro C' ok' he hm hs hpl
  walk_at "awu"
  have er : rangeL 1 (0 + 1) = [] := by decide
  rw [er]
  refine integer_spec hg ok' (by decide) ?_
  walk_at "awu"
  exact ⟨_, rfl, rfl⟩
end

section
variable {g : Gl} {C : Cx} {X : XC} {σ : St} {n : Nat}
noncomputable def cutAt {α : Type} (l : List α) (i : Nat) : List α := l.take i ++ l.drop (i + 1)
theorem cut_map {α β : Type} (f : α → β) (l : List α) (i : Nat) : cutAt (l.map f) i = (cutAt l i).map f := by
  unfold cutAt; rw [List.map_append, List.map_take, List.map_drop]
theorem cut_mem {α : Type} {l : List α} {i : Nat} {x : α} (h : x ∈ cutAt l i) : x ∈ l := (List.mem_append.mp h).elim List.mem_of_mem_take List.mem_of_mem_drop
theorem cut_nat (i n : Nat) : min i n + (n - (i + 1)) ≤ n := by
  rcases Nat.lt_or_ge i n with h | h
  · rw [Nat.min_eq_left (Nat.le_of_lt h)]; exact Nat.le_trans (Nat.add_le_add_left (Nat.sub_le_sub_left (Nat.le_succ i) n) i) (Nat.le_of_eq (Nat.add_sub_cancel' (Nat.le_of_lt h)))
  · rw [Nat.min_eq_right h, Nat.sub_eq_zero_of_le (Nat.le_succ_of_le h)]; exact Nat.le_refl n
theorem cut_le {α : Type} {l : List α} {i : Nat} (h : l.length ≤ 1000) : (l.take i).length + (l.drop (i + 1)).length ≤ 2 ^ 20 := by
  rw [List.length_take, List.length_drop]; exact Nat.le_trans (cut_nat i l.length) (le20 h)
theorem cut_len {α : Type} (l : List α) (i : Nat) : (cutAt l i).length ≤ l.length := by
  unfold cutAt; rw [List.length_append, List.length_take, List.length_drop]; exact cut_nat i l.length
/-- the frame without the column t -/
noncomputable def nulCol (ns : List Str) (cols : List FV) (t rk : Str) (ri : List FV) : FV :=
  if t ∈ ns then FV.dfr ((cutAt ns (colIx ns t)).map .str) (cutAt cols (colIx ns t)) rk ri else FV.dfr (ns.map .str) cols rk ri
theorem assign_null (hg : HK g) (ok : Ok g C (n + 6)) {ns : List Str} {t : Str} (hz : ns.length ≤ 1000) (hne : ∀ m ∈ ns, m ≠ ("" : Str)) (ht : t ≠ ("" : Str)) {cols ri : List FV} {rk : Str} {m : Nat} (hn : ns.length = cols.length) (hc : ∀ x ∈ cols, isCol m x)
    {Q : AV → St → Prop} (h : Q (.f (nulCol ns cols t rk ri)) σ) :
    AWh g C X (VR g.prog g.w) [.f (FV.dfr (ns.map .str) cols rk ri), .f (.vec "character" (.lst [.str t]) .none), .f .nul] (fun vs => call (.ref 428) vs) Q σ := by
  refine' call_none ok (xs := [FV.dfr (ns.map .str) cols rk ri, .vec "character" (.lst [.str t]) .none, .nul]) (slots := [.l "df", .l "ix", .l "value", .l "place", .l "name", .l "names", .l "columns", .l "labels", .l "rows", .l "column"])
    (loc₀ := [some (.f (FV.dfr (ns.map .str) cols rk ri)), some (.f (.vec "character" (.lst [.str t]) .none)), some (.f .nul), none, none, none, none, none, none, none]) (P := fun v => v = nulCol ns cols t rk ri) ?F
    (Sig.plain ["df", "ix", "value"] ["place", "name", "names", "columns", "labels", "rows", "column"] rfl ?hb ?h1 ?h2 ?h3) ?bd (fun v e => by rw [e]; exact h)
  case F => exact ⟨⟨_, _, _, by rw [hg]; rfl⟩, by rw [hg]; kernel_rfl, rfl, rfl, rfl⟩
  case hb => exact all3 fun _ _ _ => rfl
  case h1 => rfl
  case h2 => decide
  case h3 => rfl
  intro C' ok' he hm hs hpl
  walk_at "awf"
  refine place_spec hg ok' hz hne ht ?_
  refine AS_two ok' (.inl rfl) ?_
  walk_at "awf"
  refine colnames_spec hg ok' hz ?_
  walk_at "awf"
  by_cases hin : t ∈ ns
  · obtain ⟨h1, h2⟩ := colIx_in hin
    have hzc : cols.length ≤ 1000 := hn ▸ hz
    refine by_true (decide_eq_true (by rw [List.length_map, ← hn]; exact Int.ofNat_lt.mpr h1)) ?_
    walk_at "awf"
    have e1 : nulCol ns cols t rk ri = FV.dfr ((cutAt ns (colIx ns t)).map .str) (cutAt cols (colIx ns t)) rk ri := if_pos hin
    refine R_sliceU ?_
    walk_at "awf"
    refine ⟨cols, _, rfl, Int.natCast_nonneg _, rfl, le20 hzc, ?_⟩
    refine R_sliceL ?_
    walk_at "awf"
    refine ⟨cols, _, rfl, Int.natCast_nonneg (_ + 1), rfl, (hn ▸ h1 : colIx ns t < cols.length), le20 hzc, ?_⟩
    refine B_addL (xs := cols.take (colIx ns t)) (ys := cols.drop (colIx ns t + 1)) rfl (by rfl) (cut_le hzc) ?_
    walk_at "awf"
    refine R_sliceU ?_
    walk_at "awf"
    refine ⟨ns.map .str, _, rfl, Int.natCast_nonneg _, rfl, le20m hz, ?_⟩
    refine R_sliceL ?_
    walk_at "awf"
    refine ⟨ns.map .str, _, rfl, Int.natCast_nonneg (_ + 1), rfl, by rw [List.length_map]; exact h1, le20m hz, ?_⟩
    refine B_addL (xs := (ns.map .str).take (colIx ns t)) (ys := (ns.map .str).drop (colIx ns t + 1)) rfl (by rfl) (cut_le (by rw [List.length_map]; exact hz)) ?_
    walk_at "awf"
    change AWh _ _ _ _ [.f (.lst (cutAt cols (colIx ns t))), .f (.lst (cutAt (ns.map .str) (colIx ns t))), _] _ _ _
    rw [cut_map]
    refine newframe_spec hg ok' (m := m) (Nat.le_trans (cut_len _ _) hzc) (by rw [List.length_map]; exact Nat.le_trans (cut_len _ _) hz) (fun x hx => hc x (cut_mem hx)) ?_
    walk_at "awf"
    exact ⟨_, rfl, e1.symm⟩
  · have h1 := colIx_out hin
    have e1 : nulCol ns cols t rk ri = FV.dfr (ns.map .str) cols rk ri := if_neg hin
    refine by_false (decide_eq_false (by rw [List.length_map, ← hn, h1]; exact Int.lt_irrefl _)) ?_
    walk_at "awf"
    exact ⟨_, rfl, e1.symm⟩
end

section
variable {g : Gl} {C : Cx} {X : XC} {σ : St} {n : Nat}
noncomputable def putCol (ns : List Str) (t : Str) : List Str := if t ∈ ns then ns else ns ++ [t]
noncomputable def setCol (ns : List Str) (cols : List FV) (t : Str) (c : FV) : List FV := if t ∈ ns then cols.set (colIx ns t) c else cols ++ [c]
theorem set_mem' {l : List FV} {i : Nat} {c x : FV} (h : x ∈ l.set i c) : x = c ∨ x ∈ l := by
  rcases List.mem_or_eq_of_mem_set h with q | q
  · exact .inr q
  · exact .inl q
theorem setCol_mem {ns : List Str} {cols : List FV} {t : Str} {c x : FV} (h : x ∈ setCol ns cols t c) : x = c ∨ x ∈ cols := by
  unfold setCol at h
  split at h
  · exact set_mem' h
  · rcases List.mem_append.mp h with q | q
    · exact .inr q
    · exact .inl (List.mem_singleton.mp q)
theorem frz_l1 {xs : List FV} : frzA 0 [.lst (xs.map .f)] (some (.ref 0)) = some (.f (.lst xs)) := by
  have h0 : toF 9 0 [HO.lst (xs.map .f)] (.ref 0) = some (.lst xs) := by
    show (match allSome ((xs.map AV.f).map (toF 8 0 _)) with | some l => some (FV.lst l) | none => none) = _
    rw [allSome_f]
  show (match toF 9 0 [HO.lst (xs.map .f)] (.ref 0) with | some v => some (AV.f v) | none => none) = _
  rw [h0]
theorem assign_val (hg : HK g) (ok : Ok g C (n + 6)) {ns : List Str} {t : Str} (hz : ns.length ≤ 900) (hne : ∀ m ∈ ns, m ≠ ("" : Str)) (ht : t ≠ ("" : Str)) {cols ri : List FV} {rk : Str} (hn : ns.length = cols.length) (hr : ri.length ≤ 1000) (hc : ∀ x ∈ cols, isCol ri.length x)
    {k : Str} {its : List FV} {at' : At} (hk : k ≠ "list" ∨ at' = .none) (hkN : k ≠ "NULL") (hzi : its.length ≤ 1000) (hE : cols = [] → ri = [] → its = [] ∧ rk = "integer")
    {P' : Str → St → Prop} {Q : AV → St → Prop} (hX : ¬ fits its.length ri.length → P' (refMsg its.length ri.length) σ)
    (hQ : fits its.length ri.length → Q (.f (FV.dfr ((putCol ns t).map .str) (setCol ns cols t (.vec k (.lst (fitItems its ri.length)) (At.fv at'.kept))) rk ri)) σ) :
    AWh g C (XR g C P') (VR g.prog g.w) [.f (FV.dfr (ns.map .str) cols rk ri), .f (.vec "character" (.lst [.str t]) .none), .f (.vec k (.lst its) (At.fv at'))] (fun vs => call (.ref 428) vs) Q σ := by
  refine' call_noneX ok (xs := [FV.dfr (ns.map .str) cols rk ri, .vec "character" (.lst [.str t]) .none, .vec k (.lst its) (At.fv at')]) (slots := [.l "df", .l "ix", .l "value", .l "place", .l "name", .l "names", .l "columns", .l "labels", .l "rows", .l "column"])
    (loc₀ := [some (.f (FV.dfr (ns.map .str) cols rk ri)), some (.f (.vec "character" (.lst [.str t]) .none)), some (.f (.vec k (.lst its) (At.fv at'))), none, none, none, none, none, none, none])
    (mk := fun C' => XR g C' fun m _ => ¬ fits its.length ri.length ∧ m = refMsg its.length ri.length) (PX := fun m => ¬ fits its.length ri.length ∧ m = refMsg its.length ri.length)
    (P := fun v => fits its.length ri.length ∧ v = FV.dfr ((putCol ns t).map .str) (setCol ns cols t (.vec k (.lst (fitItems its ri.length)) (At.fv at'.kept))) rk ri) ?F
    (Sig.plain ["df", "ix", "value"] ["place", "name", "names", "columns", "labels", "rows", "column"] rfl ?hb ?h1 ?h2 ?h3) way_R (fun m hm => by rw [hm.2]; exact hX hm.1) ?bd (fun v e => by rw [e.2]; exact hQ e.1)
  case F => exact ⟨⟨_, _, _, by rw [hg]; rfl⟩, by rw [hg]; kernel_rfl, rfl, rfl, rfl⟩
  case hb => exact all3 fun _ _ _ => rfl
  case h1 => rfl
  case h2 => decide
  case h3 => rfl
  intro C' ok' he hm hs hpl
  generalize hcv : FV.vec k (.lst (fitItems its ri.length)) (At.fv at'.kept) = cv
  have hcv' : isCol ri.length cv := ⟨_, _, _, hcv.symm, by unfold fitItems; rw [List.length_map, List.length_range]⟩
  have hzn : ns.length ≤ 1000 := Nat.le_trans hz (by decide)
  have hzc : cols.length ≤ 900 := hn ▸ hz
  have hzc1 : cols.length ≤ 1000 := hn ▸ hzn
  walk_at "awn"
  refine place_spec hg ok' hzn hne ht ?_
  refine AS_two ok' (.inl rfl) ?_
  walk_at "awn"
  refine colnames_spec hg ok' hzn ?_
  walk_at "awn"
  refine L_listM (xs := cols.map .f) rfl (le20m hzc1) ?_
  walk_at "awn"
  refine by_false (beq_eq_false_iff_ne.mpr hkN) ?_
  walk_at "awn"
  refine rows_df hg ok' hr ?_
  iterate 3 kbo_bools
  -- the rows and the labels
  refine AX.cut (Q' := fun fl σ' => fl = .next ∧ σ' = ⟨[.lst (cols.map .f)], [some (.f (FV.dfr (ns.map .str) cols rk ri)), some (.f (.vec "character" (.lst [.str t]) .none)), some (.f (.vec k (.lst its) (At.fv at'))), some (.int (colIx ns t)), some (.str t), some (.f (.lst (ns.map .str))), some (.ref 0), some (.f (.vec rk (.lst ri) .none)), some (.int ri.length), none]⟩) (fun Q1 hQ1 => ?_) ?_
  · by_cases h0 : cols = [] ∧ ri = []
    · obtain ⟨rfl, rfl⟩ := h0
      obtain ⟨rfl, rfl⟩ := hE rfl rfl
      walk_at "awn"
      refine length_spec hg ok' hkN hzi ?_
      walk_at "awn"
      refine plain_rows0 hg ok' ?_
      walk_at "awn"
      exact hQ1 _ _ ⟨rfl, rfl⟩
    · refine X_if (AWg.cut (Q' := fun b σ' => b = false ∧ σ' = ⟨[.lst (cols.map .f)], [some (.f (FV.dfr (ns.map .str) cols rk ri)), some (.f (.vec "character" (.lst [.str t]) .none)), some (.f (.vec k (.lst its) (At.fv at'))), some (.int (colIx ns t)), some (.str t), some (.f (.lst (ns.map .str))), some (.ref 0), some (.f (.vec rk (.lst ri) .none)), some (.int ri.length), none]⟩) (fun Q2 hQ2 => ?_) (by rintro b σ' ⟨rfl, rfl⟩; exact ⟨fun q => (nomatch q), fun _ => X_nil (hQ1 _ _ ⟨rfl, rfl⟩)⟩))
      walk_at "awn"
      refine ⟨fun q => ?_, fun q => hQ2 _ _ ⟨rfl, rfl⟩⟩
      have hc0 : cols = [] := by
        have := beq_iff_eq.mp q
        rw [List.length_map] at this
        exact List.length_eq_zero_iff.mp (Int.ofNat_eq_zero.mp this)
      walk_at "awn"
      refine ⟨fun q => ?_, fun _ => hQ2 _ _ ⟨rfl, rfl⟩⟩
      have := beq_iff_eq.mp q
      exact absurd ⟨hc0, List.length_eq_zero_iff.mp (Int.ofNat_eq_zero.mp this)⟩ h0
  · rintro fl σ' ⟨rfl, rfl⟩
    walk_at "awn"
    refine fitted_spec hg ok' hk hzi hr (fun nf => ⟨nf, rfl⟩) fun hf => ?_
    rw [hcv]
    walk_at "awn"
    by_cases hin : t ∈ ns
    · obtain ⟨h1, h2⟩ := colIx_in hin
      refine by_true (decide_eq_true (by rw [List.length_map, ← hn]; exact Int.ofNat_lt.mpr h1)) ?_
      walk_at "awn"
      change AX _ _ _ _ _ ⟨[.lst ((cols.map AV.f).set (colIx ns t) (.f cv))], [some (.f (FV.dfr (ns.map .str) cols rk ri)), some (.f (.vec "character" (.lst [.str t]) .none)), some (.f (.vec k (.lst its) (At.fv at'))), some (.int (colIx ns t)), some (.str t), some (.f (.lst (ns.map .str))), some (.ref 0), some (.f (.vec rk (.lst ri) .none)), some (.int ri.length), some (.f cv)]⟩
      rw [← List.map_set]
      have e1 : ∀ H : List HO, frzA 0 H (some (.ref 0)) = some (.f (.lst (cols.set (colIx ns t) cv))) → (([some (.f (FV.dfr (ns.map .str) cols rk ri)), some (.f (.vec "character" (.lst [.str t]) .none)), some (.f (.vec k (.lst its) (At.fv at'))), some (.int (colIx ns t)), some (.str t), some (.f (.lst (ns.map .str))), some (.ref 0), some (.f (.vec rk (.lst ri) .none)), some (.int ri.length), some (.f cv)] : List (Option AV)).map (frzA 0 H)) = [some (.f (FV.dfr (ns.map .str) cols rk ri)), some (.f (.vec "character" (.lst [.str t]) .none)), some (.f (.vec k (.lst its) (At.fv at'))), some (.int (colIx ns t)), some (.str t), some (.f (.lst (ns.map .str))), some (.f (.lst (cols.set (colIx ns t) cv))), some (.f (.vec rk (.lst ri) .none)), some (.int ri.length), some (.f cv)] := fun H hH => by
        simp only [List.map_cons, List.map_nil, hH]; rfl
      refine X_frzTo hpl (e1 _ ?_) ?_
      · exact frz_l1
      walk_at "awl"
      refine newframe_spec hg ok' (m := ri.length) (by rw [List.length_set]; exact hzc1) (by rw [List.length_map]; exact hzn) (fun x hx => (set_mem' hx).elim (fun e => e ▸ hcv') (hc x)) ?_
      walk_at "awl"
      refine ⟨_, rfl, hf, ?_⟩
      unfold putCol setCol
      rw [if_pos hin, if_pos hin]
    · have h1 := colIx_out hin
      refine by_false (decide_eq_false (by rw [List.length_map, ← hn, h1]; exact Int.lt_irrefl _)) ?_
      walk_at "awn"
      refine newList_F1 ?_
      refine B_addL (xs := ns.map .str) (ys := [.str t]) rfl rfl (by rw [List.length_map]; exact Nat.le_trans (Nat.succ_le_succ hz) (by decide)) ?_
      walk_at "awn"
      change AX _ _ _ _ _ ⟨[.lst (cols.map AV.f ++ [.f cv])], [some (.f (FV.dfr (ns.map .str) cols rk ri)), some (.f (.vec "character" (.lst [.str t]) .none)), some (.f (.vec k (.lst its) (At.fv at'))), some (.int (colIx ns t)), some (.str t), some (.f (.lst (ns.map .str ++ [.str t]))), some (.ref 0), some (.f (.vec rk (.lst ri) .none)), some (.int ri.length), some (.f cv)]⟩
      rw [show cols.map AV.f ++ [.f cv] = (cols ++ [cv]).map AV.f by rw [List.map_append]; rfl]
      have e1 : ∀ H : List HO, frzA 0 H (some (.ref 0)) = some (.f (.lst (cols ++ [cv]))) → (([some (.f (FV.dfr (ns.map .str) cols rk ri)), some (.f (.vec "character" (.lst [.str t]) .none)), some (.f (.vec k (.lst its) (At.fv at'))), some (.int (colIx ns t)), some (.str t), some (.f (.lst (ns.map .str ++ [.str t]))), some (.ref 0), some (.f (.vec rk (.lst ri) .none)), some (.int ri.length), some (.f cv)] : List (Option AV)).map (frzA 0 H)) = [some (.f (FV.dfr (ns.map .str) cols rk ri)), some (.f (.vec "character" (.lst [.str t]) .none)), some (.f (.vec k (.lst its) (At.fv at'))), some (.int (colIx ns t)), some (.str t), some (.f (.lst (ns.map .str ++ [.str t]))), some (.f (.lst (cols ++ [cv]))), some (.f (.vec rk (.lst ri) .none)), some (.int ri.length), some (.f cv)] := fun H hH => by
        simp only [List.map_cons, List.map_nil, hH]; rfl
      refine X_frzTo hpl (e1 _ ?_) ?_
      · exact frz_l1
      walk_at "awl"
      refine newframe_spec hg ok' (m := ri.length) (by rw [List.length_append]; exact Nat.le_trans (Nat.succ_le_succ hzc) (by decide)) (by rw [List.length_append, List.length_map]; exact Nat.le_trans (Nat.succ_le_succ hz) (by decide)) (fun x hx => ?_) ?_
      · rcases List.mem_append.mp hx with q | q
        · exact hc x q
        · rw [List.mem_singleton.mp q]; exact hcv'
      walk_at "awl"
      refine ⟨_, rfl, hf, ?_⟩
      unfold putCol setCol
      rw [if_neg hin, if_neg hin, List.map_append]
      rfl
end

section
variable {g : Gl} {C : Cx} {X : XC} {σ : St} {n : Nat}
/-- what df$t <- v comes to: a frame, or a refusal's words -/
inductive Out (ns : List Str) (cols : List FV) (t rk : Str) (ri : List FV) : FV → FV ⊕ Str → Prop
  | nul : Out ns cols t rk ri .nul (.inl (nulCol ns cols t rk ri))
  | fit {k : Str} {its : List FV} {at' : At} (hk : k ≠ "list" ∨ at' = .none) (hkN : k ≠ "NULL") (hz : its.length ≤ 1000) (hE : cols = [] → ri = [] → its = [] ∧ rk = "integer") (hf : fits its.length ri.length) :
      Out ns cols t rk ri (.vec k (.lst its) (At.fv at')) (.inl (FV.dfr ((putCol ns t).map .str) (setCol ns cols t (.vec k (.lst (fitItems its ri.length)) (At.fv at'.kept))) rk ri))
  | bad {k : Str} {its : List FV} {at' : At} (hk : k ≠ "list" ∨ at' = .none) (hkN : k ≠ "NULL") (hz : its.length ≤ 1000) (hE : cols = [] → ri = [] → its = [] ∧ rk = "integer") (hf : ¬ fits its.length ri.length) :
      Out ns cols t rk ri (.vec k (.lst its) (At.fv at')) (.inr (refMsg its.length ri.length))
theorem assign_spec (hg : HK g) (ok : Ok g C (n + 6)) {ns : List Str} {t : Str} (hz : ns.length ≤ 900) (hne : ∀ m ∈ ns, m ≠ ("" : Str)) (ht : t ≠ ("" : Str)) {cols ri : List FV} {rk : Str} (hn : ns.length = cols.length) (hr : ri.length ≤ 1000) (hc : ∀ x ∈ cols, isCol ri.length x)
    {v : FV} {r : FV ⊕ Str} (o : Out ns cols t rk ri v r) {P' : Str → St → Prop} {Q : AV → St → Prop} (hX : ∀ m, r = .inr m → P' m σ) (hQ : ∀ d, r = .inl d → Q (.f d) σ) :
    AWh g C (XR g C P') (VR g.prog g.w) [.f (FV.dfr (ns.map .str) cols rk ri), .f (.vec "character" (.lst [.str t]) .none), .f v] (fun vs => call (.ref 428) vs) Q σ := by
  cases o with
  | nul => exact assign_null hg ok (by omega) hne ht hn hc (hQ _ rfl)
  | fit hk hkN hz' hE hf => exact assign_val hg ok hz hne ht hn hr hc hk hkN hz' hE (fun nf => absurd hf nf) (fun _ => hQ _ rfl)
  | bad hk hkN hz' hE hf => exact assign_val hg ok hz hne ht hn hr hc hk hkN hz' hE (fun _ => hX _ rfl) (fun hf' => absurd hf' hf)
theorem Out.isN {ns : List Str} {cols : List FV} {t rk : Str} {ri : List FV} {v : FV} {r : FV ⊕ Str} (o : Out ns cols t rk ri v r) : Mine.isN (.f v) = false := by cases o <;> rfl
theorem setd_spec (hg : HK g) (ok : Ok g C (n + 7)) {ns : List Str} {t : Str} (hz : ns.length ≤ 900) (hne : ∀ m ∈ ns, m ≠ ("" : Str)) (ht : t ≠ ("" : Str)) {cols ri : List FV} {rk : Str} (hn : ns.length = cols.length) (hr : ri.length ≤ 1000) (hc : ∀ x ∈ cols, isCol ri.length x)
    {ix : FV} (hix : ix = .sym t ∨ ix = .vec "character" (.lst [.str t]) .none) {v : FV} {r : FV ⊕ Str} (o : Out ns cols t rk ri v r) {P' : Str → St → Prop} {Q : AV → St → Prop} (hX : ∀ m, r = .inr m → P' m σ) (hQ : ∀ d, r = .inl d → Q (.f d) σ) :
    AWh g C (XR g C P') (VR g.prog g.w) [.none, .f (.lst [.tup [.none, FV.dfr (ns.map .str) cols rk ri], .tup [.none, ix], .tup [.str "value", v]]), .none] (fun vs => call (.ref 442) vs) Q σ := by
  refine' call_noneX ok (xs := [.none, .lst [.tup [.none, FV.dfr (ns.map .str) cols rk ri], .tup [.none, ix], .tup [.str "value", v]], .none]) (slots := [.l "interp", .l "args", .l "env", .l "df", .l "name", .l "value"])
    (loc₀ := [some .none, some (.f (.lst [.tup [.none, FV.dfr (ns.map .str) cols rk ri], .tup [.none, ix], .tup [.str "value", v]])), some .none, none, none, none])
    (mk := fun C' => XR g C' fun m _ => r = .inr m) (PX := fun m => r = .inr m) (P := fun d => r = .inl d) ?F
    (Sig.plain ["interp", "args", "env"] ["df", "name", "value"] rfl ?hb ?h1 ?h2 ?h3) way_R (fun m hm => hX m hm) ?bd (fun v e => hQ v e)
  case F => exact ⟨⟨_, _, _, by rw [hg]; rfl⟩, by rw [hg]; kernel_rfl, rfl, rfl, rfl⟩
  case hb => exact all3 fun _ _ _ => rfl
  case h1 => rfl
  case h2 => decide
  case h3 => rfl
  intro C' ok' he hm hs hpl
  have ov := o.isN
  walk_at "awf"
  refine first_spec hg ok' (by rw [List.length_map]; exact hn) (by omega) hr hc ?_
  walk_at "awf"
  refine R_sliceL ?_
  walk_at "awf"
  refine take_spec hg ok' ?_
  walk_at "awf"
  refine ⟨[_, ix, v], _, rfl, by omega, rfl, by simp, by simp, ?_⟩
  refine AS_two ok' (.inr rfl) ?_
  walk_at "awf"
  refine needed_spec hg ok' (by rcases hix with rfl | rfl <;> rfl) ?_
  walk_at "awf"
  refine needed_spec hg ok' ov ?_
  rcases hix with rfl | rfl
  · walk_at "awf"
    refine character_spec hg ok' (by simp) ?_
    walk_at "awf"
    refine assign_spec hg ok' hz hne ht hn hr hc o (fun m hm => hm) fun d hd => ?_
    walk_at "awf"
    exact ⟨_, rfl, hd⟩
  · walk_at "awf"
    refine assign_spec hg ok' hz hne ht hn hr hc o (fun m hm => hm) fun d hd => ?_
    walk_at "awf"
    exact ⟨_, rfl, hd⟩
end

section
variable {g : Gl} {C : Cx} {X : XC} {σ : St} {n : Nat}
/-- a call's result frozen, older objects changed -/
theorem AWh.frzN {xs : List AV} {f : List Value → Sem Value} {Q : AV → St → Prop}
    (h : AWh g C X (VR g.prog g.w) xs f (fun b σ' => ∃ H1 T fv, σ'.heap = H1 ++ T ∧ H1.length = σ.heap.length ∧ (∀ o ∈ H1, NRo H1.length o) ∧ σ'.loc = σ.loc ∧ toF 9 H1.length T b = some fv ∧ Q (.f fv) ⟨H1, σ.loc⟩) σ) : AWh g C X (VR g.prog g.w) xs f Q σ := by
  intro Y Z W hh tk r vs hv Qc Ec q e
  refine h Y Z W hh tk r vs hv Qc Ec (fun b σ' v Z' W' h' tk' p r' f' w' x' => ?_) e
  obtain ⟨H1, T, fv, e1, e0, nr, e2, e3, hq⟩ := p
  obtain ⟨H', loc'⟩ := σ'
  dsimp only at e1 e2
  subst e1 e2
  obtain ⟨mF, kd, Cs, r⟩ := r
  have hlen : σ.heap.length = W.length := r.or.len
  have hW : adr (W'.take H1.length) = adr W := by
    obtain ⟨t, ht⟩ := w'
    unfold adr at ht ⊢
    rw [List.map_take, ht, e0, hlen, ← List.length_map (f := (·.a)) (as := W), List.take_left]
  have hcl : σ.loc.map (cl H1.length) = σ.loc := by
    have lo := r.lo
    have e : (adr W).length = H1.length := by unfold adr; rw [List.length_map, e0, hlen]
    unfold Loc at lo
    generalize C.mode = md at lo
    cases md with
    | fn => rw [← e]; exact lo.2.cl_id
    | cp Lc m₀ => obtain ⟨_, _, _, _, _, k⟩ := lo; rw [← e]; exact k.cl_id
  obtain ⟨Z₂, r₂, f₂, k⟩ := Rel.freeze r' nr
  rw [hcl] at r₂
  exact q (.f fv) ⟨H1, σ.loc⟩ v Z₂ _ h' tk' hq r₂ (f'.trans f₂) (by rw [hW]; exact PLe.refl _) (.f (k 9 b v fv x' e3))
theorem dip_lt {ws : List Int} {lim : Int} (hl : 0 < lim) : ∃ d : Nat, (dipR ws lim).1 = (d : Int) ∧ (d : Int) < lim ∧ (dipR ws lim).2.length ≤ ws.length := by
  cases ws with
  | nil => exact ⟨0, rfl, hl, Nat.le_refl _⟩
  | cons x xs =>
    refine ⟨(x.fmod lim).toNat, ?_, ?_, ?_⟩
    · show x.fmod lim = _
      have := Int.fmod_nonneg_of_pos x hl
      omega
    · have h1 := Int.fmod_nonneg_of_pos x hl
      have h2 := Int.fmod_lt_of_pos x hl
      omega
    · show (if x.fdiv lim = 0 then xs else x.fdiv lim :: xs).length ≤ _
      split
      · rw [List.length_cons]; omega
      · exact Nat.le_refl _
theorem dip_n (hg : HK g) (ok : Ok g C (n + 1)) {i : Nat} {ws : List Int} {L m : Nat} {Q : AV → St → Prop} (hx : σ.heap[i]? = some (.lst (ws.map .int))) (hl : 0 < L) (hl2 : L < 100) (hm : m ≤ 100) (hz : ws.length ≤ m)
    (h : ∀ (d : Nat) (ws' : List Int), d < L → ws'.length ≤ m → Q (.int d) ⟨σ.heap.set i (.lst (ws'.map .int)), σ.loc⟩) :
    AWh g C X (VR g.prog g.w) [.ref i, .int (L : Int)] (fun vs => call (.ref 449) vs) Q σ := by
  obtain ⟨d, h1, h2, h3⟩ := dip_lt (ws := ws) (Int.ofNat_lt.mpr hl)
  refine dip_spec hg ok hx (Int.ofNat_lt.mpr hl) (Int.ofNat_lt.mpr hl2) (Nat.le_trans hz hm) ?_
  rw [h1]
  exact h d _ (Int.ofNat_lt.mp h2) (Nat.le_trans h3 hz)
theorem comp_inv {elt : Expr} {cv : List (Option AV)} {Qend : List AV → List HO → Prop} (I : List FV → List AV → List HO → Prop) (h0 : ∀ acc H, I [] acc H → Qend acc H)
    (hs : ∀ x xs acc H, I (x :: xs) acc H → AW g C XC.no (eval elt C.env) (fun y σ' => σ'.loc = some (.f x) :: cv ∧ I xs (acc ++ [y]) σ'.heap) ⟨H, some (.f x) :: cv⟩) : ∀ xs acc H, I xs acc H → CompQ g C elt [] cv Qend xs acc H
  | [], acc, H, h => by simpa [CompQ] using h0 acc H h
  | x :: xs, acc, H, h => by
    unfold CompQ
    refine (hs x xs acc H h).mono ?_
    rintro y σ' ⟨e, k⟩
    exact ⟨e, comp_inv I h0 hs xs _ _ k⟩
theorem R_neg {x : Expr} {pos : Pos} {Q : AV → St → Prop} (h : AW g C X (eval x C.env) (fun v σ₁ => ∃ i, v = .int i ∧ Q (.int (-i)) σ₁) σ) : AW g C X (eval (.UnaryOp .USub x pos) C.env) Q σ := by
  intro Y Z W hh tk rr Qc Ec q e
  refine UnaryOp_ (h Y Z W hh tk rr _ Ec (fun a σ₁ v₁ Z₁ W₁ h₁ t₁ p₁ r₁ f₁ w₁ x₁ => ?_) e)
  obtain ⟨i, rfl, hq⟩ := p₁
  obtain ⟨t, rfl⟩ := vr_int x₁
  exact PyProof.Rows.neg_int (q _ σ₁ _ Z₁ W₁ h₁ _ hq r₁ f₁ w₁ (.f .int))
end

noncomputable def lvA : FV := .vec "character" (.lst [.str "u", .str "", .str "t"]) .none
noncomputable def lvB : FV := .vec "character" (.lst [.str "factor"]) .none
section
variable {g : Gl} {C : Cx} {X : XC} {σ : St} {n : Nat}
/-- a fresh value: its kind, its items, what is told of them; a factor or not -/
structure Val (g : Gl) (sz : Nat) (k : Str) (its ts : List FV) : Prop where
  len : its.length = sz
  kN : k ≠ "NULL"
  kd : (k ≠ "list" ∧ ts = its) ∨ (k = "list" ∧ All2 (ToldC g 2) its ts)
  gd : FV.goods ts = true
  gk : PyData.strOk k = true
  dp : ∀ x ∈ ts, x.dat.depth ≤ 5
theorem goods_map {f : Nat → FV} : ∀ {ds : List Nat}, (∀ d ∈ ds, (f d).good = true) → FV.goods (ds.map f) = true
  | [], _ => rfl
  | d :: ds, h => by
    show ((f d).good && FV.goods (ds.map f)) = true
    rw [h d (.head _), goods_map fun x hx => h x (.tail _ hx)]; rfl
theorem val_map {f : Nat → FV} {ds : List Nat} {many : Nat} {k : Str} (hd : ∀ d ∈ ds, d < 7) (hl : ds.length = many) (kN : k ≠ "NULL") (kL : k ≠ "list") (gk : PyData.strOk k = true) (hf : ∀ d : Fin 7, (f d).good = true ∧ (f d).dat.depth ≤ 5) : Val g many k (ds.map f) (ds.map f) :=
  ⟨by rw [List.length_map]; exact hl, kN, .inl ⟨kL, rfl⟩, goods_map fun d h => (hf ⟨d, hd d h⟩).1, gk, fun x hx => by
    obtain ⟨d, h, rfl⟩ := List.mem_map.mp hx
    exact (hf ⟨d, hd d h⟩).2⟩
theorem comp_ds {elt : Expr} {cv : List (Option AV)} {Qend : List AV → List HO → Prop} {H : List HO} {ds : List Nat} (f : Nat → FV) (hd : ∀ d ∈ ds, d < 7)
    (k : ∀ d : Nat, d < 7 → AW g C XC.no (eval elt C.env) (fun v σ' => v = .f (f d) ∧ σ' = ⟨H, some (.f (.int d)) :: cv⟩) ⟨H, some (.f (.int d)) :: cv⟩)
    (h : Qend (([] : List AV) ++ (ds.map f).map .f) H) : CompQ g C elt [] cv Qend (ds.map fun (d : Nat) => .int (d : Int)) [] H :=
  comp_rel (All2.left (All2.right fun d hq => k d (hd d hq))) h
theorem str_tab1 (t u : Tok) : ∀ d : Nat, d < 6 → (sliceMade "NA" u none (some ((d : Int), t)) none = .val (.str "NA" u) ∧ ([("" : Str), "N", "NA", "NA", "NA", "NA"].getD d "") = "NA") ∨ sliceMade "NA" u none (some ((d : Int), t)) none = .str ([("" : Str), "N", "NA", "NA", "NA", "NA"].getD d "")
  | 0, _ => .inr (by kernel_rfl)
  | 1, _ => .inr (by kernel_rfl)
  | 2, _ => .inl ⟨by kernel_rfl, rfl⟩
  | 3, _ => .inl ⟨by kernel_rfl, rfl⟩
  | 4, _ => .inl ⟨by kernel_rfl, rfl⟩
  | 5, _ => .inl ⟨by kernel_rfl, rfl⟩
  | d + 6, h => absurd h (Nat.not_lt_of_le (Nat.le_add_left 6 d))
theorem str_tab2 : ∀ d : Fin 6, (fun d : Nat => ([("" : Str), "N", "NA", "NA", "NA", "NA"].getD d "").length ≤ 2 ^ 20 ∧ Txt.mul "\t" ((d : Int).fdiv 3) = ([("" : Str), "", "", "\t", "\t", "\t"].getD d "") ∧ ([("" : Str), "N", "NA", "NA", "NA", "NA"].getD d "").length + ([("" : Str), "", "", "\t", "\t", "\t"].getD d "").length ≤ 2 ^ 20) d := by decide +kernel
theorem str_tab3 : ∀ d : Nat, d < 6 → MulOk "\t" ((d : Int).fdiv 3)
  | 0, _ => ⟨by decide +kernel, by decide +kernel, by decide +kernel⟩
  | 1, _ => ⟨by decide +kernel, by decide +kernel, by decide +kernel⟩
  | 2, _ => ⟨by decide +kernel, by decide +kernel, by decide +kernel⟩
  | 3, _ => ⟨by decide +kernel, by decide +kernel, by decide +kernel⟩
  | 4, _ => ⟨by decide +kernel, by decide +kernel, by decide +kernel⟩
  | 5, _ => ⟨by decide +kernel, by decide +kernel, by decide +kernel⟩
  | d + 6, h => absurd h (Nat.not_lt_of_le (Nat.le_add_left 6 d))
theorem str_tab4 : ∀ d : Nat, d < 6 → AV.str (([("" : Str), "N", "NA", "NA", "NA", "NA"].getD d "") ++ ([("" : Str), "", "", "\t", "\t", "\t"].getD d "")) = .f (([.str "", .str "N", .str "NA", .str "NA\t", .str "NA\t", .str "NA\t", .none] : List FV).getD d .none)
  | 0, _ => by kernel_rfl
  | 1, _ => by kernel_rfl
  | 2, _ => by kernel_rfl
  | 3, _ => by kernel_rfl
  | 4, _ => by kernel_rfl
  | 5, _ => by kernel_rfl
  | d + 6, h => absurd h (Nat.not_lt_of_le (Nat.le_add_left 6 d))
theorem list_good : ∀ d : Fin 7, (if (d : Nat) = 6 then FV.lst [.str "NULL", .lst [], .lst []] else .lst [.str "integer", .lst (rangeL 0 (d : Nat)), .lst []]).good = true ∧ (if (d : Nat) = 6 then FV.lst [.str "NULL", .lst [], .lst []] else .lst [.str "integer", .lst (rangeL 0 (d : Nat)), .lst []]).dat.depth ≤ 5 := by decide +kernel
theorem fresh_spec (hg : HK g) (ok : Ok g C (n + 2)) {i : Nat} {ws : List Int} {sort many : Nat} {m : Nat} (hx : σ.heap[i]? = some (.lst (ws.map .int))) (hm1 : m ≤ 100) (hzw : ws.length ≤ m) (hmn : many ≤ 10) (hs6 : sort < 6) {Q : AV → St → Prop}
    (h : ∀ (ws' : List Int) k its ts, ws'.length ≤ m → Val g many k its ts → (k = "list" ↔ sort = 5) → sort ≠ 4 → Q (.ref σ.heap.length) ⟨σ.heap.set i (.lst (ws'.map .int)) ++ [.ins 99 vkeys [.str k, .f (.lst its), .none, .bool false, .bool false]], σ.loc⟩)
    (h4 : ∀ (ws' : List Int) its, ws'.length ≤ m → Val g many "integer" its its → sort = 4 → Q (.ref (σ.heap.length + 1)) ⟨σ.heap.set i (.lst (ws'.map .int)) ++ [.dct ["levels", "class"] [.f lvA, .f lvB], .ins 99 vkeys [.str "integer", .f (.lst its), .ref σ.heap.length, .bool false, .bool false]], σ.loc⟩) :
    AWh g C X (VR g.prog g.w) [.ref i, .int sort, .int many] (fun vs => call (.ref 454) vs) Q σ := by
  refine' call_allC ok (ps := ["well", "sort", "many"]) (os := ["sort", "many", "drawn", "levels"]) (ds := []) (dx := []) ?F ?S rfl ?bd
  case F => exact ⟨⟨_, _, _, by rw [hg]; rfl⟩, by rw [hg]; kernel_rfl, rfl, rfl, rfl⟩
  case S => exact ⟨fun s vs hK hv => by obtain ⟨a, b, c, rfl⟩ := len3 hv; exact BindsTo.of_eq rfl, fun _ _ _ => .nil, by decide +kernel, by decide, by decide +kernel, by decide, by decide +kernel, by decide +kernel⟩
  intro C' ok' he hm hs hpl
  replace hs : C'.slots = [.c "well" (C'.L + 1), .l "sort", .l "many", .l "drawn", .l "levels"] := hs
  change AX _ _ _ _ _ ⟨_, [some (.ref i), some (.int sort), some (.int many), none, none]⟩
  have hil : i < σ.heap.length := (List.getElem?_eq_some_iff.mp hx).1
  walk_at "awu"
  intro C₂ ok₂ he₂ hs₂ hpl₂
  obtain ⟨Lc, he₂⟩ := he₂
  rw [he] at he₂
  rw [hs] at hs₂
  replace hs₂ : C₂.slots = [.l "_", .c "well" (C'.L + 1)] := hs₂
  rw [hs]
  change CompQ _ _ _ _ [some (.ref i)] _ _ _ _
  refine comp_inv (fun xs acc H => ∃ (ds : List Nat) (ws' : List Int), acc = (ds.map fun (d : Nat) => FV.int (d : Int)).map .f ∧ (∀ d ∈ ds, d < 7) ∧ ds.length + xs.length = many ∧ H = σ.heap.set i (.lst (ws'.map .int)) ∧ ws'.length ≤ m) ?_ ?_ _ _ _ ⟨[], ws, rfl, (fun _ h => nomatch h), ?_, ?_, hzw⟩
  · rintro acc H ⟨ds, ws', rfl, hd, hl, rfl, hw⟩
    rw [List.length_nil, Nat.add_zero] at hl
    refine .inl ⟨_, rfl, ?_⟩
    replace h := fun k its ts => h ws' k its ts hw
    replace h4 := fun its => h4 ws' its hw
    have hlen : (σ.heap.set i (.lst (ws'.map .int))).length = σ.heap.length := List.length_set
    generalize σ.heap.set i (.lst (ws'.map .int)) = H at h h4 hlen ⊢
    rw [← hlen] at h h4
    obtain rfl | rfl | rfl | rfl | rfl | rfl := of6 _ hs6
    · walk_at "awu"
      intro C₃ ok₃ he₃ hs₃ hpl₃
      obtain ⟨Lc₃, he₃⟩ := he₃
      rw [he] at he₃
      rw [hs] at hs₃
      replace hs₃ : C₃.slots = [.l "one", .d "well" (C'.L + 1)] := hs₃
      rw [hs]
      refine comp_ds (fun d => if d = 6 then .none else .int ((d : Int) - 2147483647)) hd (fun d hd7 => ?_) (ce_rel ?_)
      · change AW _ _ _ _ _ ⟨H, [some (.f (.int d)), some (.ref i)]⟩
        walk_at "awu"
        refine ⟨fun q => ?_, fun q => ?_⟩
        · walk_at "awu"
          exact ⟨by rw [if_pos (Int.ofNat.inj (beq_iff_eq.mp q))], rfl⟩
        · walk_at "awu"
          exact ⟨by rw [if_neg (int_ne (b := 6) (beq_eq_false_iff_ne.mp q))], rfl⟩
      · walk_at "awu"
        refine vec_M2 hg ok' ?_
        walk_at "awu"
        refine ⟨_, rfl, h "integer" _ _ (val_map hd hl (by decide) (by decide) (by decide +kernel) (by decide +kernel)) (by decide) (by decide)⟩
    · walk_at "awu"
      intro C₃ ok₃ he₃ hs₃ hpl₃
      obtain ⟨Lc₃, he₃⟩ := he₃
      rw [he] at he₃
      rw [hs] at hs₃
      replace hs₃ : C₃.slots = [.l "one", .d "well" (C'.L + 1)] := hs₃
      rw [hs]
      refine comp_ds (fun d => [.tup [.int 1, .int 3], .tup [.int (-5), .int 2], .tup [.int 7, .int 1], .tup [.int 1, .int 0], .tup [.int (-1), .int 0], .tup [.int 0, .int 0], .none].getD d .none) hd (fun d hd7 => ?_) (ce_rel ?_)
      · change AW _ _ _ _ _ ⟨H, [some (.f (.int d)), some (.ref i)]⟩
        walk_at "awu"
        refine R_neg ?_
        walk_at "awu"
        refine R_neg ?_
        walk_at "awu"
        refine G_at (xs := [.tup [.int 1, .int 3], .tup [.int (-5), .int 2], .tup [.int 7, .int 1], .tup [.int 1, .int 0], .tup [.int (-1), .int 0], .tup [.int 0, .int 0], .none]) hd7 (by simp) ?_
        exact ⟨rfl, rfl⟩
      · walk_at "awu"
        refine vec_M2 hg ok' ?_
        walk_at "awu"
        refine ⟨_, rfl, h "double" _ _ (val_map hd hl (by decide) (by decide) (by decide +kernel) (by decide +kernel)) (by decide) (by decide)⟩
    · walk_at "awu"
      intro C₃ ok₃ he₃ hs₃ hpl₃
      obtain ⟨Lc₃, he₃⟩ := he₃
      rw [he] at he₃
      rw [hs] at hs₃
      replace hs₃ : C₃.slots = [.l "one", .d "well" (C'.L + 1)] := hs₃
      rw [hs]
      refine comp_ds (fun d => ([.str "", .str "N", .str "NA", .str "NA\t", .str "NA\t", .str "NA\t", .none] : List FV).getD d .none) hd (fun d hd7 => ?_) (ce_rel ?_)
      · change AW _ _ _ _ _ ⟨H, [some (.f (.int d)), some (.ref i)]⟩
        walk_at "awu"
        refine ⟨fun q => ?_, fun q => ?_⟩
        · obtain rfl : d = 6 := Int.ofNat.inj (beq_iff_eq.mp q)
          walk_at "awu"
          exact rfl
        · have hd6 : d < 6 := Nat.lt_of_le_of_ne (Nat.le_of_lt_succ hd7) (int_ne (b := 6) (beq_eq_false_iff_ne.mp q))
          refine R_binop (R_sliceS ?_)
          walk_at "awu"
          obtain ⟨e2, e3, e4⟩ := str_tab2 ⟨d, hd6⟩
          refine ⟨"NA", (d : Int), _, rfl, rfl, by decide, fun t u => str_tab1 t u d hd6, e2, ?_⟩
          walk_at "awu"
          refine B_fdiv (i := (d : Int)) (j := 3) (by decide) (by decide) ?_
          walk_at "awu"
          refine B_muls (y := [("" : Str), "", "", "\t", "\t", "\t"].getD d "") (str_tab3 d hd6) e3 ?_
          walk_at "awu"
          refine B_adds e4 ?_
          exact ⟨str_tab4 d hd6, rfl⟩
      · walk_at "awu"
        refine vec_M2 hg ok' ?_
        walk_at "awu"
        refine ⟨_, rfl, h "character" _ _ (val_map hd hl (by decide) (by decide) (by decide +kernel) (by decide +kernel)) (by decide) (by decide)⟩
    · walk_at "awu"
      intro C₃ ok₃ he₃ hs₃ hpl₃
      obtain ⟨Lc₃, he₃⟩ := he₃
      rw [he] at he₃
      rw [hs] at hs₃
      replace hs₃ : C₃.slots = [.l "one", .d "well" (C'.L + 1)] := hs₃
      rw [hs]
      refine comp_ds (fun d => ([.int 0, .int 1, .none] : List FV).getD (d % 3) .none) hd (fun d hd7 => ?_) (ce_rel ?_)
      · change AW _ _ _ _ _ ⟨H, [some (.f (.int d)), some (.ref i)]⟩
        walk_at "awu"
        refine B_mod (i := (d : Int)) (j := 3) (by decide) ?_
        rw [show ((d : Int).fmod 3) = ((d % 3 : Nat) : Int) from fmod_n]
        walk_at "awu"
        refine G_at (xs := [.int 0, .int 1, .none]) (Nat.mod_lt d (by decide) : d % 3 < 3) (by simp) ?_
        exact ⟨rfl, rfl⟩
      · walk_at "awu"
        refine vec_M2 hg ok' ?_
        walk_at "awu"
        refine ⟨_, rfl, h "logical" _ _ (val_map hd hl (by decide) (by decide) (by decide +kernel) (by decide +kernel)) (by decide) (by decide)⟩
    · walk_at "awu"
      refine vec_F2 (k := "character") (it := .lst [.str "u", .str "", .str "t"]) hg ok' ?_
      walk_at "awu"
      refine vec_F2 (k := "character") (it := .lst [.str "factor"]) hg ok' ?_
      walk_at "awu"
      intro C₃ ok₃ he₃ hs₃ hpl₃
      obtain ⟨Lc₃, he₃⟩ := he₃
      rw [he] at he₃
      rw [hs] at hs₃
      replace hs₃ : C₃.slots = [.l "one", .d "well" (C'.L + 1)] := hs₃
      rw [hs]
      refine comp_ds (fun d => if d = 6 then .none else .int (((d % 3 : Nat) : Int) + 1)) hd (fun d hd7 => ?_) (ce_rel ?_)
      · change AW _ _ _ _ _ ⟨H ++ [.dct ["levels", "class"] [.f lvA, .f lvB]], [some (.f (.int d)), some (.ref i)]⟩
        walk_at "awu"
        refine ⟨fun q => ?_, fun q => ?_⟩
        · walk_at "awu"
          exact ⟨by rw [if_pos (Int.ofNat.inj (beq_iff_eq.mp q))], rfl⟩
        · walk_at "awu"
          refine B_mod (i := (d : Int)) (j := 3) (by decide) ?_
          rw [show ((d : Int).fmod 3) = ((d % 3 : Nat) : Int) from fmod_n]
          walk_at "awu"
          exact ⟨by rw [if_neg (int_ne (b := 6) (beq_eq_false_iff_ne.mp q))], rfl⟩
      · walk_at "awu"
        refine vec_M3 hg ok' ?_
        walk_at "awu"
        refine ⟨_, rfl, ?_⟩
        have h5 := h4 _ (val_map (f := fun d => if d = 6 then .none else .int (((d % 3 : Nat) : Int) + 1)) hd hl (by decide) (by decide) (by decide +kernel) (by decide +kernel)) rfl
        show Q (.ref (H ++ [_]).length) ⟨(H ++ [_]) ++ [_], _⟩
        rw [List.append_assoc, List.length_append]
        exact h5
    · walk_at "awu"
      intro C₃ ok₃ he₃ hs₃ hpl₃
      obtain ⟨Lc₃, he₃⟩ := he₃
      rw [he] at he₃
      rw [hs] at hs₃
      replace hs₃ : C₃.slots = [.l "one", .d "well" (C'.L + 1)] := hs₃
      rw [hs]
      refine comp_ds (fun d => if d = 6 then .nul else .vec "integer" (.lst (rangeL 0 d)) .none) hd (fun d hd7 => ?_) (ce_rel ?_)
      · change AW _ _ _ _ _ ⟨H, [some (.f (.int d)), some (.ref i)]⟩
        walk_at "awu"
        refine ⟨fun q => ?_, fun q => ?_⟩
        · walk_at "awu"
          refine null_F hg ok₃ ?_
          exact ⟨by rw [if_pos (Int.ofNat.inj (beq_iff_eq.mp q))], rfl⟩
        · walk_at "awu"
          refine vec_F2 hg ok₃ ?_
          exact ⟨by rw [if_neg (int_ne (b := 6) (beq_eq_false_iff_ne.mp q))], rfl⟩
      · walk_at "awu"
        refine vec_M2 hg ok' ?_
        walk_at "awu"
        refine ⟨_, rfl, h "list" _ (ds.map fun (d : Nat) => if d = 6 then FV.lst [.str "NULL", .lst [], .lst []] else .lst [.str "integer", .lst (rangeL 0 d), .lst []]) ⟨by rw [List.length_map]; exact hl, by decide, .inr ⟨rfl, All2.left (All2.right fun d hq => ?_)⟩, goods_map fun d hq => (list_good ⟨d, hd d hq⟩).1, by decide +kernel, fun x hx => ?_⟩ (by decide) (by decide)⟩
        · split
          · exact told_nul hg
          · refine told_vec hg (by decide) (by rw [range_zlen]; exact Nat.le_trans (Nat.le_of_lt (hd d hq)) (by decide)) (.inl ⟨by decide, rfl⟩) (.inl ⟨rfl, rfl⟩)
        · obtain ⟨d, hq, rfl⟩ := List.mem_map.mp hx
          exact (list_good ⟨d, hd d hq⟩).2
  · rintro x xs acc H ⟨ds, ws', rfl, hd, hl, rfl, hw⟩
    walk_at "awu"
    refine dip_n hg ok₂ (L := 7) (ws := ws') ?_ (by decide) (by decide) hm1 hw fun d ws'' h7 hw' => ?_
    · show (σ.heap.set i _)[i]? = _
      rw [List.getElem?_set_self hil]
    · refine ⟨rfl, ds ++ [d], ws'', by rw [List.map_append, List.map_append]; rfl, fun y hy => ?_, ?_, ?_, hw'⟩
      · rcases List.mem_append.mp hy with q | q
        · exact hd y q
        · rw [List.mem_singleton.mp q]; exact h7
      · rw [List.length_append]; rw [List.length_cons, Nat.add_comm xs.length, ← Nat.add_assoc] at hl; exact hl
      · show (σ.heap.set i _).set i _ = _
        rw [List.set_set]
  · rw [List.length_nil, Nat.zero_add]; exact range_zlen
  · exact (PySem.W.X.set_same hx).symm
end

noncomputable def tups : Nat → List Str → List (List Str)
  | 0, _ => [[]]
  | n + 1, ks => ks.flatMap fun k => (tups n ks).map (k :: ·)
theorem tups_mem {ks : List Str} : ∀ {ss : List Str}, (∀ s ∈ ss, s ∈ ks) → ss ∈ tups ss.length ks
  | [], _ => .head _
  | s :: ss, h => by
    show s :: ss ∈ ks.flatMap fun k => (tups ss.length ks).map (k :: ·)
    exact List.mem_flatMap.mpr ⟨s, h s (.head _), List.mem_map.mpr ⟨ss, tups_mem fun x hx => h x (.tail _ hx), rfl⟩⟩
theorem srt_of {ks srt : List Str} (h : ((tups ks.length ks).all fun ss => !(ss.isPerm ks && sortedS ss) || ss == srt) = true) : ∀ ss : List Str, ss.Perm ks → sortedS ss = true → ss = srt := by
  intro ss hp hs
  have m := tups_mem (ks := ks) (ss := ss) fun s q => hp.mem_iff.mp q
  rw [hp.length_eq] at m
  have := List.all_eq_true.mp h ss m
  rw [List.isPerm_iff.mpr hp, hs] at this
  simpa using this
noncomputable def mdl (ns : List Str) (ts : List FV) : List FV := List.zipWith (fun n t => .lst [.str n, t]) ns ts
noncomputable def sheetF (ns : List Str) (ts : List FV) (rh : FV) : FV :=
  .lst [.str "list", .lst ts, .lst [.lst [.str "class", .lst [.str "character", .lst [.str "data.frame"], .lst []]], .lst [.str "names", .lst [.str "character", .lst (ns.map .str), .lst []]], .lst [.str "row.names", rh]]]
theorem mdl_len {ns : List Str} {ts : List FV} (h : ns.length = ts.length) : (mdl ns ts).length = ns.length := by unfold mdl; rw [List.length_zipWith]; omega
theorem all2_mdl {R : FV → FV → Prop} {f : Str → FV → FV} (h : ∀ n t, R (.lst [.str n, t]) (f n t)) : ∀ {ns : List Str} {ts : List FV}, All2 R (mdl ns ts) (List.zipWith f ns ts)
  | [], _ => .nil
  | _ :: _, [] => .nil
  | n :: ns, t :: ts => .cons (h n t) (all2_mdl h)
theorem zip_l : ∀ {ns : List Str} {ts : List FV}, ns.length = ts.length → List.zipWith (fun n (_ : FV) => FV.str n) ns ts = ns.map .str
  | [], _, _ => rfl
  | _ :: _, [], h => by cases h
  | n :: ns, t :: ts, h => by rw [List.zipWith_cons_cons, List.map_cons, zip_l (by simpa using h)]
theorem zip_r : ∀ {ns : List Str} {ts : List FV}, ns.length = ts.length → List.zipWith (fun (_ : Str) (t : FV) => t) ns ts = ts
  | [], [], _ => rfl
  | [], _ :: _, h => by cases h
  | _ :: _, [], h => by cases h
  | n :: ns, t :: ts, h => by rw [List.zipWith_cons_cons, zip_r (by simpa using h)]
theorem all2_l {R : FV → FV → Prop} {ns : List Str} {ts : List FV} (hl : ns.length = ts.length) (h : ∀ n t, R (.lst [.str n, t]) (.str n)) : All2 R (mdl ns ts) (ns.map .str) := by
  have := all2_mdl (R := R) (ns := ns) (ts := ts) (f := fun n _ => .str n) h
  rwa [zip_l hl] at this
theorem all2_r {R : FV → FV → Prop} {ns : List Str} {ts : List FV} (hl : ns.length = ts.length) (h : ∀ n t, R (.lst [.str n, t]) t) : All2 R (mdl ns ts) ts := by
  have := all2_mdl (R := R) (ns := ns) (ts := ts) (f := fun _ t => t) h
  rwa [zip_r hl] at this
section
variable {g : Gl} {C : Cx} {X : XC} {σ : St} {n : Nat}
theorem sheet_spec (hg : HK g) (ok : Ok g C (n + 1)) {ns : List Str} {ts : List FV} {rh : FV} (hl : ns.length = ts.length) (hz : ns.length ≤ 1000) {Q : AV → St → Prop} (h : Q (.f (sheetF ns ts rh)) σ) :
    AWh g C X (VR g.prog g.w) [.f (.lst (mdl ns ts)), .f rh] (fun vs => call (.ref 464) vs) Q σ := by
  refine' call_none ok (xs := [.lst (mdl ns ts), rh]) (slots := [.l "model", .l "row_heads", .l "heads", .l "beside"]) (loc₀ := [some (.f (.lst (mdl ns ts))), some (.f rh), none, none]) (P := fun v => v = sheetF ns ts rh) ?F (Sig.plain ["model", "row_heads"] ["heads", "beside"] rfl ?hb ?h1 ?h2 ?h3) ?bd (fun v e => by rw [e]; exact h)
  case F => exact ⟨⟨_, _, _, by rw [hg]; rfl⟩, by rw [hg]; kernel_rfl, rfl, rfl, rfl⟩
  case hb => exact all2 fun _ _ => rfl
  case h1 => rfl
  case h2 => decide
  case h3 => rfl
  intro C' ok' he hm hs hpl
  have hmz : (mdl ns ts).length ≤ 2 ^ 20 := by rw [mdl_len hl]; omega
  walk_at "awu"
  intro C₂ ok₂ he₂ hs₂ hpl₂
  obtain ⟨Lc, he₂⟩ := he₂
  rw [he] at he₂
  rw [hs] at hs₂
  replace hs₂ : C₂.slots = [.l "one"] := hs₂
  rw [hs]
  refine comp_rel (ys := ns.map .str) (all2_l hl fun n t => ?_) (ce_rel ?_)
  · change AW _ _ _ _ _ ⟨[], [some (.f (.lst [.str n, t]))]⟩
    walk_at "awu"
    exact rfl
  · walk_at "awu"
    intro C₃ ok₃ he₃ hs₃ hpl₃
    obtain ⟨Lc, he₃⟩ := he₃
    rw [he] at he₃
    rw [hs] at hs₃
    replace hs₃ : C₃.slots = [.l "one"] := hs₃
    rw [hs]
    refine comp_rel (ys := ts) (all2_r hl fun n t => ?_) (ce_rel ?_)
    · change AW _ _ _ _ _ ⟨[], [some (.f (.lst [.str n, t]))]⟩
      walk_at "awu"
      exact rfl
    · walk_at "awu"
      exact ⟨_, rfl, rfl⟩
/-- what is told of a frame is its sheet -/
theorem told_df (hg : HK g) {m : Nat} {ns : List Str} {cols ts ri : List FV} {rk : Str} {rh : FV} (hz : cols.length ≤ 1000) (hzn : ns.length ≤ 1000) (hc : All2 (ToldC g (m + 1)) cols ts) (hr : ToldC g (m + 1) (.vec rk (.lst ri) .none) rh) :
    ToldC g (m + 2) (FV.dfr (ns.map .str) cols rk ri) (sheetF ns ts rh) := by
  refine told_vec hg (by decide) hz (.inr ⟨rfl, hc⟩) (.inr ⟨_, ["class", "names", "row.names"], _, rfl, by decide, by decide, srt_of (by decide +kernel), ?_⟩)
  refine .cons ⟨_, _, rfl, told_vec hg (by decide) (by decide) (.inl ⟨by decide, rfl⟩) (.inl ⟨rfl, rfl⟩), rfl⟩ (.cons ⟨_, _, rfl, told_vec hg (by decide) (by rw [List.length_map]; exact hzn) (.inl ⟨by decide, rfl⟩) (.inl ⟨rfl, rfl⟩), rfl⟩ (.cons ⟨_, _, rfl, hr, rfl⟩ .nil))
end

noncomputable def tC : FV := .lst [.str "character", .lst [.str "factor"], .lst []]
noncomputable def tL : FV := .lst [.str "character", .lst [.str "u", .str "", .str "t"], .lst []]
noncomputable def tN (nms : List FV) : FV := .lst [.str "character", .lst nms, .lst []]
noncomputable def atOf : Bool → Option (List FV) → At
  | false, none => .none
  | false, some l => .nm (.vec "character" (.lst l) .none)
  | true, none => .lc lvA lvB
  | true, some l => .lcn lvA lvB (.vec "character" (.lst l) .none)
noncomputable def facT : Bool → List FV
  | true => [.lst [.str "class", tC], .lst [.str "levels", tL]]
  | false => []
noncomputable def besides : Bool → Option (List FV) → List FV
  | fac, none => facT fac
  | fac, some l => facT fac ++ [.lst [.str "names", tN l]]
theorem at_kept {fac : Bool} {nm : Option (List FV)} : (atOf fac nm).kept = atOf fac none := by cases fac <;> cases nm <;> rfl
section
variable {g : Gl}
theorem told_val (hg : HK g) {sz : Nat} {k : Str} {its ts : List FV} {fac : Bool} {nm : Option (List FV)} (v : Val g sz k its ts) (hz : sz ≤ 1000) (hn : ∀ l, nm = some l → l.length ≤ 1000) :
    ToldC g 3 (.vec k (.lst its) (At.fv (atOf fac nm))) (.lst [.str k, .lst ts, .lst (besides fac nm)]) := by
  have tA : ToldC g 2 lvA tL := told_vec hg (by decide) (by decide) (.inl ⟨by decide, rfl⟩) (.inl ⟨rfl, rfl⟩)
  have tB : ToldC g 2 lvB tC := told_vec hg (by decide) (by decide) (.inl ⟨by decide, rfl⟩) (.inl ⟨rfl, rfl⟩)
  have tM : ∀ l, nm = some l → ToldC g 2 (.vec "character" (.lst l) .none) (tN l) := fun l e => told_vec hg (by decide) (hn l e) (.inl ⟨by decide, rfl⟩) (.inl ⟨rfl, rfl⟩)
  refine told_vec hg v.kN (by rw [v.len]; exact hz) v.kd ?_
  cases fac with
  | false =>
    cases nm with
    | none => exact .inl ⟨rfl, rfl⟩
    | some l => exact .inr ⟨_, ["names"], _, rfl, by decide, by decide, srt_of (by decide +kernel), .cons ⟨_, _, rfl, tM l rfl, rfl⟩ .nil⟩
  | true =>
    cases nm with
    | none => exact .inr ⟨_, ["class", "levels"], _, rfl, by decide, by decide, srt_of (by decide +kernel), .cons ⟨_, _, rfl, tB, rfl⟩ (.cons ⟨_, _, rfl, tA, rfl⟩ .nil)⟩
    | some l => exact .inr ⟨_, ["class", "levels", "names"], _, rfl, by decide, by decide, srt_of (by decide +kernel), .cons ⟨_, _, rfl, tB, rfl⟩ (.cons ⟨_, _, rfl, tA, rfl⟩ (.cons ⟨_, _, rfl, tM l rfl, rfl⟩ .nil))⟩
theorem All2.getD {α β : Type} {R : α → β → Prop} {a : α} {b : β} {as : List α} {bs : List β} {i : Nat} (h : All2 R as bs) (hi : i < as.length) : R (as.getD i a) (bs.getD i b) := by
  induction h generalizing i with
  | nil => cases hi
  | cons x _ ih => cases i with
    | zero => exact x
    | succ i => exact ih (i := i) (Nat.lt_of_succ_lt_succ hi)
theorem all2_map2 {α β γ : Type} {R : β → γ → Prop} {f : α → β} {f' : α → γ} : ∀ {as : List α}, (∀ a ∈ as, R (f a) (f' a)) → All2 R (as.map f) (as.map f')
  | [], _ => .nil
  | a :: as, h => .cons (h a (.head _)) (all2_map2 fun b hb => h b (.tail _ hb))
theorem fit_mem {its : List FV} {r : Nat} {x : FV} (h : x ∈ fitItems its r) : x ∈ its ∨ x = .none := by
  obtain ⟨j, _, rfl⟩ := List.mem_map.mp h
  by_cases q : j % its.length < its.length
  · rw [List.getD_eq_getElem?_getD, List.getElem?_eq_getElem q]; exact .inl (List.getElem_mem q)
  · rw [List.getD_eq_getElem?_getD, List.getElem?_eq_none (by omega)]; exact .inr rfl
theorem goods_iff : ∀ {xs : List FV}, FV.goods xs = true ↔ ∀ x ∈ xs, x.good = true
  | [] => ⟨(fun _ _ h => nomatch h), fun _ => rfl⟩
  | x :: xs => by
    show (x.good && FV.goods xs) = true ↔ _
    rw [Bool.and_eq_true, goods_iff]
    exact ⟨fun h y hy => (List.mem_cons.mp hy).elim (fun e => e ▸ h.1) (h.2 y), fun h => ⟨h x (.head _), fun y hy => h y (.tail _ hy)⟩⟩
theorem Val.fit {sz r : Nat} {k : Str} {its ts : List FV} (v : Val g sz k its ts) (hf : fits sz r) : Val g r k (fitItems its r) (fitItems ts r) := by
  have hl : its.length = ts.length := by
    rcases v.kd with ⟨_, e⟩ | ⟨_, h⟩
    · rw [e]
    · exact h.len
  refine ⟨by unfold fitItems; rw [List.length_map, List.length_range], v.kN, ?_, goods_iff.mpr fun x hx => ?_, v.gk, fun x hx => ?_⟩
  · rcases v.kd with ⟨a, e⟩ | ⟨a, h⟩
    · exact .inl ⟨a, by rw [e]⟩
    · refine .inr ⟨a, ?_⟩
      unfold fitItems
      rw [← hl]
      refine all2_map2 fun j hj => h.getD ?_
      have := List.mem_range.mp hj
      have := v.len
      refine Nat.mod_lt _ ?_
      rcases hf with q | q <;> omega
  · rcases fit_mem hx with q | rfl
    · exact goods_iff.mp v.gd x q
    · rfl
  · rcases fit_mem hx with q | rfl
    · exact v.dp x q
    · decide
end
theorem dats_depth {b : Nat} : ∀ {xs : List FV}, (∀ x ∈ xs, x.dat.depth ≤ b) → PyData.depthAll (FV.dats xs) ≤ b
  | [], _ => Nat.zero_le _
  | x :: xs, h => Nat.max_le.mpr ⟨h x (.head _), dats_depth fun y hy => h y (.tail _ hy)⟩
theorem lst_depth {b : Nat} {xs : List FV} (h : ∀ x ∈ xs, x.dat.depth ≤ b) : (FV.lst xs).dat.depth ≤ b + 1 := Nat.succ_le_succ (dats_depth h)
theorem lst_good {xs : List FV} (h : ∀ x ∈ xs, x.good = true) : (FV.lst xs).good = true := goods_iff.mpr h
noncomputable def fine (x : FV) : Prop := x.good = true ∧ x.dat.depth ≤ 7
theorem fac_fine : ∀ fac, ∀ x ∈ facT fac, x.good = true ∧ x.dat.depth ≤ 4 := by
  intro fac
  cases fac with
  | false => intro x h; cases h
  | true =>
    intro x h
    rcases List.mem_cons.mp h with rfl | h
    · exact ⟨by decide +kernel, by decide +kernel⟩
    · rw [List.mem_singleton.mp h]; exact ⟨by decide +kernel, by decide +kernel⟩
theorem val_fine {g : Gl} {sz : Nat} {k : Str} {its ts : List FV} {fac : Bool} (v : Val g sz k its ts) : fine (.lst [.str k, .lst ts, .lst (facT fac)]) := by
  constructor
  · show (PyData.strOk k && (FV.goods ts && (FV.goods (facT fac) && true))) = true
    rw [v.gk, v.gd, goods_iff.mpr fun x hx => (fac_fine fac x hx).1]; rfl
  · refine lst_depth (b := 6) fun x hx => ?_
    rcases List.mem_cons.mp hx with rfl | hx
    · exact Nat.zero_le _
    · rcases List.mem_cons.mp hx with rfl | hx
      · exact lst_depth v.dp
      · rw [List.mem_singleton.mp hx]
        exact Nat.le_trans (lst_depth fun x hx => (fac_fine fac x hx).2) (by decide)
theorem named_good {g : Gl} {sz : Nat} {k : Str} {its ts nms : List FV} {fac : Bool} (v : Val g sz k its ts) (hn : FV.goods nms = true) (hd : ∀ x ∈ nms, x.dat.depth ≤ 1) : (FV.lst [.str k, .lst ts, .lst (besides fac (some nms))]).good = true ∧ (FV.lst [.str k, .lst ts, .lst (besides fac (some nms))]).dat.depth ≤ 64 := by
  have e : (FV.lst [.str "names", tN nms]).good = true := by
    show (PyData.strOk "names" && ((PyData.strOk "character" && (FV.goods nms && (true && true))) && true)) = true
    rw [hn]; decide +kernel
  constructor
  · show (PyData.strOk k && (FV.goods ts && (FV.goods (facT fac ++ [FV.lst [.str "names", tN nms]]) && true))) = true
    rw [v.gk, v.gd, goods_iff.mpr fun x hx => ?_]
    · rfl
    · rcases List.mem_append.mp hx with q | q
      · exact (fac_fine fac x q).1
      · rw [List.mem_singleton.mp q]; exact e
  · refine Nat.le_trans (lst_depth (b := 6) fun x hx => ?_) (by decide)
    rcases List.mem_cons.mp hx with rfl | hx
    · exact Nat.zero_le _
    · rcases List.mem_cons.mp hx with rfl | hx
      · exact lst_depth v.dp
      · rw [List.mem_singleton.mp hx]
        refine lst_depth (b := 5) fun x hx => ?_
        rcases List.mem_append.mp hx with q | q
        · exact Nat.le_trans (fac_fine fac x q).2 (by decide)
        · rw [List.mem_singleton.mp q]
          refine lst_depth (b := 4) fun x hx => ?_
          rcases List.mem_cons.mp hx with rfl | hx
          · exact Nat.zero_le _
          · rw [List.mem_singleton.mp hx]
            refine lst_depth (b := 3) fun x hx => ?_
            rcases List.mem_cons.mp hx with rfl | hx
            · exact Nat.zero_le _
            · rcases List.mem_cons.mp hx with rfl | hx
              · exact Nat.le_trans (lst_depth hd) (by decide)
              · rw [List.mem_singleton.mp hx]; decide
theorem sheet_fine {ns : List Str} {ts : List FV} {rh : FV} (hn : ∀ n ∈ ns, PyData.strOk n = true) (ht : ∀ t ∈ ts, fine t) (hr : fine rh) : (sheetF ns ts rh).good = true ∧ (sheetF ns ts rh).dat.depth ≤ 64 := by
  have hg : FV.goods (ns.map .str) = true := goods_iff.mpr fun x hx => by
    obtain ⟨n, h, rfl⟩ := List.mem_map.mp hx
    exact hn n h
  constructor
  · show (PyData.strOk "list" && (FV.goods ts && ((FV.good (.lst [.str "class", .lst [.str "character", .lst [.str "data.frame"], .lst []]]) && ((PyData.strOk "names" && ((PyData.strOk "character" && (FV.goods (ns.map .str) && (true && true))) && true)) && ((PyData.strOk "row.names" && (rh.good && true)) && true))) && true))) = true
    rw [goods_iff.mpr fun x hx => (ht x hx).1, hg, hr.1]
    decide +kernel
  · refine Nat.le_trans (lst_depth (b := 10) fun x hx => ?_) (by decide)
    rcases List.mem_cons.mp hx with rfl | hx
    · exact Nat.zero_le _
    · rcases List.mem_cons.mp hx with rfl | hx
      · exact Nat.le_trans (lst_depth fun x hx => (ht x hx).2) (by decide)
      · rw [List.mem_singleton.mp hx]
        refine lst_depth (b := 9) fun x hx => ?_
        rcases List.mem_cons.mp hx with rfl | hx
        · decide
        · rcases List.mem_cons.mp hx with rfl | hx
          · refine lst_depth (b := 8) fun x hx => ?_
            rcases List.mem_cons.mp hx with rfl | hx
            · exact Nat.zero_le _
            · rw [List.mem_singleton.mp hx]
              refine lst_depth (b := 7) fun x hx => ?_
              rcases List.mem_cons.mp hx with rfl | hx
              · exact Nat.zero_le _
              · rcases List.mem_cons.mp hx with rfl | hx
                · refine Nat.le_trans (lst_depth (b := 0) fun x hx => ?_) (by decide)
                  obtain ⟨n, h, rfl⟩ := List.mem_map.mp hx
                  exact Nat.le_refl _
                · rw [List.mem_singleton.mp hx]; decide
          · rw [List.mem_singleton.mp hx]
            refine lst_depth (b := 8) fun x hx => ?_
            rcases List.mem_cons.mp hx with rfl | hx
            · exact Nat.zero_le _
            · rw [List.mem_singleton.mp hx]; exact Nat.le_trans hr.2 (by decide)

theorem mdl_cut {ns : List Str} {ts : List FV} (h : ns.length = ts.length) (i : Nat) : cutAt (mdl ns ts) i = mdl (cutAt ns i) (cutAt ts i) := by
  unfold cutAt mdl
  rw [List.take_zipWith, List.drop_zipWith, List.zipWith_append]
  rw [List.length_take, List.length_take, h]
theorem mdl_app {ns : List Str} {ts : List FV} {t : Str} {c : FV} (h : ns.length = ts.length) : mdl ns ts ++ [.lst [.str t, c]] = mdl (ns ++ [t]) (ts ++ [c]) := by
  unfold mdl
  rw [List.zipWith_append h]; rfl
theorem mdl_set {t : Str} {c : FV} : ∀ {ns : List Str} {ts : List FV} {i : Nat}, ns[i]? = some t → (mdl ns ts).set i (.lst [.str t, c]) = mdl ns (ts.set i c)
  | [], _, _, h => by simp at h
  | _ :: _, [], i, _ => by simp [mdl]
  | n :: ns, x :: ts, 0, h => by
    have : n = t := by simpa using h
    subst this; rfl
  | n :: ns, x :: ts, i + 1, h => by
    show FV.lst [.str n, x] :: (mdl ns ts).set i _ = FV.lst [.str n, x] :: mdl ns (ts.set i c)
    rw [mdl_set (by simpa using h)]
theorem mdl_get : ∀ {ns : List Str} {ts : List FV} {i : Nat}, ns.length = ts.length → i < ns.length → (mdl ns ts).getD i .none = .lst [.str (ns.getD i ""), ts.getD i .none]
  | [], _, _, _, h => by simp at h
  | _ :: _, [], _, h, _ => by simp at h
  | n :: ns, x :: ts, 0, _, _ => rfl
  | n :: ns, x :: ts, i + 1, h, hi => by
    have := mdl_get (ns := ns) (ts := ts) (i := i) (by simpa using h) (by simpa using hi)
    simpa [mdl] using this
noncomputable def spotsL (ns : List Str) (t : Str) : List Nat := (List.range ns.length).filter fun i => ns.getD i "" == t
theorem spots_cons {n t : Str} {ns : List Str} : spotsL (n :: ns) t = (if (n == t) = true then [0] else []) ++ (spotsL ns t).map Nat.succ := by
  unfold spotsL
  rw [List.length_cons, List.range_succ_eq_map, List.filter_cons, List.filter_map]
  have e : ((fun i => (n :: ns).getD i "" == t) ∘ Nat.succ) = fun i => ns.getD i "" == t := by funext i; simp
  rw [e]
  by_cases q : (n == t) = true
  · rw [if_pos q, if_pos (by simpa using q)]; rfl
  · rw [if_neg q, if_neg (by simpa using q)]; rfl
theorem spots_take {t : Str} : ∀ {ns : List Str}, (spotsL ns t).take 1 = if t ∈ ns then [colIx ns t] else []
  | [] => by simp [spotsL]
  | n :: ns => by
    rw [spots_cons]
    by_cases q : n = t
    · subst q
      rw [if_pos (by simp), if_pos (.head _)]
      simp [colIx, List.findIdx_cons]
    · have q' : (n == t) = false := beq_eq_false_iff_ne.mpr q
      rw [if_neg (by rw [q']; decide), List.nil_append, ← List.map_take, spots_take]
      by_cases h : t ∈ ns
      · rw [if_pos h, if_pos (.tail _ h)]
        simp [colIx, List.findIdx_cons, q']
      · rw [if_neg h, if_neg (by simp [h]; exact fun e => q e.symm)]; rfl
theorem spots_nil {t : Str} {ns : List Str} : (spotsL ns t).length = 0 ↔ t ∉ ns := by
  have h := spots_take (t := t) (ns := ns)
  constructor
  · intro e q
    rw [List.length_eq_zero_iff.mp e, if_pos q] at h
    cases h
  · intro q
    rw [if_neg q] at h
    cases e : spotsL ns t with
    | nil => rfl
    | cons a b => rw [e] at h; cases h
theorem cut_zero {α : Type} {x : α} {l : List α} : cutAt (x :: l) 0 = l := by simp [cutAt]
theorem cut_succ {α : Type} {x : α} {l : List α} {i : Nat} : cutAt (x :: l) (i + 1) = x :: cutAt l i := by simp [cutAt]
theorem get_all : ∀ {l : List FV}, (List.range l.length).map (fun j => l.getD j .none) = l
  | [] => rfl
  | x :: l => by
    rw [List.length_cons, List.range_succ_eq_map, List.map_cons, List.map_map]
    have := get_all (l := l)
    refine List.cons_eq_cons.mpr ⟨rfl, ?_⟩
    simpa [Function.comp_def] using this
theorem filt_cut : ∀ {l : List FV} {i : Nat}, ((List.range l.length).filter fun j => !(j == i)).map (fun j => l.getD j .none) = cutAt l i
  | [], i => by simp [cutAt]
  | x :: l, 0 => by
    rw [cut_zero, List.length_cons, List.range_succ_eq_map, List.filter_cons, List.filter_map]
    have e : ((fun j => !(j == 0)) ∘ Nat.succ) = fun _ => true := by funext i; simp
    rw [e, if_neg (by simp), List.filter_eq_self.mpr (by simp), List.map_map]
    have := get_all (l := l)
    simpa [Function.comp_def] using this
  | x :: l, i + 1 => by
    rw [cut_succ, List.length_cons, List.range_succ_eq_map, List.filter_cons, List.filter_map]
    have e : ((fun j => !(j == i + 1)) ∘ Nat.succ) = fun j => !(j == i) := by funext j; simp
    rw [e, if_pos (by simp), List.map_cons, List.map_map]
    have := filt_cut (l := l) (i := i)
    refine List.cons_eq_cons.mpr ⟨rfl, ?_⟩
    simpa [Function.comp_def] using this
theorem set_all {c : FV} : ∀ {l : List FV} {i : Nat}, (List.range l.length).map (fun j => if j = i then c else l.getD j .none) = l.set i c
  | [], i => by simp
  | x :: l, 0 => by
    rw [List.length_cons, List.range_succ_eq_map, List.map_cons, List.map_map, List.set_cons_zero]
    have := get_all (l := l)
    refine List.cons_eq_cons.mpr ⟨rfl, ?_⟩
    simpa [Function.comp_def] using this
  | x :: l, i + 1 => by
    rw [List.length_cons, List.range_succ_eq_map, List.map_cons, List.map_map, List.set_cons_succ]
    have := set_all (c := c) (l := l) (i := i)
    refine List.cons_eq_cons.mpr ⟨by simp, ?_⟩
    simpa [Function.comp_def] using this

noncomputable def names4 : List Str := ["x", "y", "z", "w.1"]
theorem colIx_get {ns : List Str} {t : Str} (h : t ∈ ns) : ns[colIx ns t]? = some t := by
  have hl := (colIx_in h).1
  rw [List.getElem?_eq_getElem hl]
  have : (ns[colIx ns t] == t) = true := List.findIdx_getElem (p := (· == t)) (w := hl)
  rw [beq_iff_eq.mp this]
theorem All2.set {α β : Type} {R : α → β → Prop} {a : α} {b : β} (h : R a b) {as : List α} {bs : List β} (i : Nat) (k : All2 R as bs) : All2 R (as.set i a) (bs.set i b) := by
  induction k generalizing i with
  | nil => exact .nil
  | cons x r ih => cases i with
    | zero => exact .cons h r
    | succ i => exact .cons x (ih i)
theorem All2.app {α β : Type} {R : α → β → Prop} {cs : List α} {ds : List β} (h : All2 R cs ds) {as : List α} {bs : List β} (k : All2 R as bs) : All2 R (as ++ cs) (bs ++ ds) := by
  induction k with
  | nil => exact h
  | cons x _ ih => exact .cons x ih
theorem All2.take {α β : Type} {R : α → β → Prop} (n : Nat) {as : List α} {bs : List β} (k : All2 R as bs) : All2 R (as.take n) (bs.take n) := by
  induction k generalizing n with
  | nil => cases n <;> exact .nil
  | cons x _ ih => cases n with
    | zero => exact .nil
    | succ n => exact .cons x (ih n)
theorem All2.drop {α β : Type} {R : α → β → Prop} (n : Nat) {as : List α} {bs : List β} (k : All2 R as bs) : All2 R (as.drop n) (bs.drop n) := by
  induction k generalizing n with
  | nil => cases n <;> exact .nil
  | cons x r ih => cases n with
    | zero => exact .cons x r
    | succ n => exact ih n
theorem All2.cut {α β : Type} {R : α → β → Prop} {as : List α} {bs : List β} (h : All2 R as bs) (i : Nat) : All2 R (cutAt as i) (cutAt bs i) := (h.drop (i + 1)).app (h.take i)
theorem All2.mem {α β : Type} {R : α → β → Prop} {as : List α} {bs : List β} (h : All2 R as bs) : (∀ a ∈ as, ∃ b, R a b) ∧ ∀ b ∈ bs, ∃ a, R a b := by
  induction h with
  | nil => exact ⟨(fun _ h => nomatch h), (fun _ h => nomatch h)⟩
  | cons x _ ih =>
    refine ⟨fun a ha => ?_, fun b hb => ?_⟩
    · rcases List.mem_cons.mp ha with rfl | ha
      · exact ⟨_, x⟩
      · exact ih.1 a ha
    · rcases List.mem_cons.mp hb with rfl | hb
      · exact ⟨_, x⟩
      · exact ih.2 b hb
/-- a column and what is told of it -/
structure ColT (g : Gl) (m : Nat) (c t : FV) : Prop where
  col : isCol m c
  told : ToldC g 3 c t
  fine : fine t
/-- a frame's columns -/
structure Cols (g : Gl) (m : Nat) (ns : List Str) (cols ts : List FV) : Prop where
  len : ns.length = cols.length
  nm : ∀ n ∈ ns, n ∈ names4
  all : All2 (ColT g m) cols ts
section
variable {g : Gl} {m : Nat} {ns : List Str} {cols ts : List FV}
theorem Cols.tlen (c : Cols g m ns cols ts) : ns.length = ts.length := c.len.trans c.all.len
theorem Cols.isc (c : Cols g m ns cols ts) : ∀ x ∈ cols, isCol m x := fun x hx => let ⟨_, h⟩ := c.all.mem.1 x hx; h.col
theorem Cols.fine (c : Cols g m ns cols ts) : ∀ t ∈ ts, Mine.fine t := fun x hx => let ⟨_, h⟩ := c.all.mem.2 x hx; h.fine
theorem Cols.told (c : Cols g m ns cols ts) : All2 (ToldC g 3) cols ts := c.all.imp fun _ _ h => h.told
theorem names_ne : ∀ n ∈ names4, n ≠ ("" : Str) := by decide
theorem names_ok : ∀ n ∈ names4, PyData.strOk n = true := by decide +kernel
theorem Cols.cut (c : Cols g m ns cols ts) (i : Nat) : Cols g m (cutAt ns i) (cutAt cols i) (cutAt ts i) := by
  refine ⟨?_, fun n hn => c.nm n (cut_mem hn), c.all.cut i⟩
  unfold cutAt
  simp only [List.length_append, List.length_take, List.length_drop, c.len]
theorem Cols.put (c : Cols g m ns cols ts) {t : Str} (ht : t ∈ names4) {x y : FV} (h : ColT g m x y) : Cols g m (putCol ns t) (setCol ns cols t x) (setCol ns ts t y) := by
  unfold putCol setCol
  by_cases hin : t ∈ ns
  · rw [if_pos hin, if_pos hin, if_pos hin]
    exact ⟨by rw [List.length_set]; exact c.len, c.nm, c.all.set h _⟩
  · rw [if_neg hin, if_neg hin, if_neg hin]
    refine ⟨by rw [List.length_append, List.length_append, c.len]; rfl, fun n hn => ?_, (All2.cons h .nil).app c.all⟩
    rcases List.mem_append.mp hn with q | q
    · exact c.nm n q
    · rw [List.mem_singleton.mp q]; exact ht
theorem putc_len (t : Str) : (putCol ns t).length ≤ ns.length + 1 := by
  unfold putCol
  split
  · omega
  · rw [List.length_append]; exact Nat.le_refl _
theorem mdl_in {t : Str} {y : FV} (hin : t ∈ ns) : mdl (putCol ns t) (setCol ns ts t y) = (mdl ns ts).set (colIx ns t) (.lst [.str t, y]) := by
  unfold putCol setCol
  rw [if_pos hin, if_pos hin, mdl_set (colIx_get hin)]
theorem mdl_out {t : Str} {y : FV} (hl : ns.length = ts.length) (hin : t ∉ ns) : mdl (putCol ns t) (setCol ns ts t y) = mdl ns ts ++ [.lst [.str t, y]] := by
  unfold putCol setCol
  rw [if_neg hin, if_neg hin, mdl_app hl]
end
theorem spots_ints {ns : List Str} {t : Str} : ((spotsL ns t).map fun (i : Nat) => FV.int (i : Int)).take 1 = if t ∈ ns then [.int (colIx ns t : Int)] else [] := by
  rw [← List.map_take, spots_take]
  split <;> rfl

noncomputable def fors : List Stmt → List (List Stmt)
  | [] => []
  | s :: r => match s with
    | .For _ _ b _ _ => b :: fors r
    | _ => fors r
noncomputable def nth {α : Type} : List (List α) → Nat → List α
  | x :: _, 0 => x
  | _ :: r, n + 1 => nth r n
  | [], _ => []
noncomputable def loop1 : List Stmt := nth (fors lawD.body) 0
noncomputable def loop2 : List Stmt := nth (fors lawD.body) 1
noncomputable def loop3 : List Stmt := nth (fors lawD.body) 2
noncomputable def lawLoc : List Str := ["script", "wide", "tall", "_", "sort", "row_heads", "told_heads", "df", "kept", "ix", "value", "way", "words", "beside", "said", "error", "one", "shown"]
noncomputable abbrev lawSl (L : Nat) : List Slot := [.c "column" (L + 9), .c "spots" (L + 8), .c "before" (L + 7), .c "size" (L + 6), .c "name" (L + 5), .c "model" (L + 4), .c "columns" (L + 3), .c "heads" (L + 2), .c "well" (L + 1),
  .l "script", .l "wide", .l "tall", .l "_", .l "sort", .l "row_heads", .l "told_heads", .l "df", .l "kept", .l "ix", .l "value", .l "way", .l "words", .l "beside", .l "said", .l "error", .l "one", .l "shown"]
theorem law_slots (L : Nat) : slotsC lawD.scope lawLoc L = lawSl L := by rfl
/-- the law's frame -/
structure LF (g : Gl) (C : Cx) (f : Addr) (cdv : Value) (qual : Str) : Prop where
  he : C.env = envOfC qual lawD.scope C.L f cdv
  hm : C.mode = .fn
  hs : C.slots = lawSl C.L
  hpl : C.pl = false
  hef : C.env = C.fenv
  hbh : C.base = C.h₀
/-- some names forgotten -/
inductive Forg : List (Option AV) → List (Option AV) → Prop
  | nil : Forg [] []
  | no {u : Option AV} {us vs : List (Option AV)} : Forg us vs → Forg (u :: us) (none :: vs)
  | same {u : Option AV} {us vs : List (Option AV)} : Forg us vs → Forg (u :: us) (u :: vs)
section
variable {g : Gl} {C : Cx} {X : XC} {σ : St} {n : Nat}
theorem Forg.cons_inv {u : Option AV} {us ws : List (Option AV)} (h : Forg (u :: us) ws) : ∃ u' vs, ws = u' :: vs ∧ (u' = none ∨ u' = u) ∧ Forg us vs := by
  cases h with
  | no k => exact ⟨_, _, rfl, .inl rfl, k⟩
  | same k => exact ⟨_, _, rfl, .inr rfl, k⟩
theorem OV.forg {Z : Fz} {φ : List Addr} {u u' : Option AV} {v : Option Value} (e : u' = none ∨ u' = u) (h : OV g Z φ u v) : OV g Z φ u' v := by
  rcases e with rfl | rfl
  · trivial
  · exact h
theorem SR.forg {Z : Fz} {φ : List Addr} {m : Str → Option Value} {ss : List Slot} {us vs : List (Option AV)} {Cs : Led} (h : SR g Z φ m ss us Cs) (k : Forg us vs) : SR g Z φ m ss vs Cs := by
  induction h generalizing vs with
  | nil => cases k; exact .nil
  | l h _ ih => obtain ⟨_, _, rfl, e, k⟩ := k.cons_inv; exact .l (h.forg e) (ih k)
  | c hd h _ ih => obtain ⟨_, _, rfl, e, k⟩ := k.cons_inv; exact .c hd (h.forg e) (ih k)
  | d hd h _ ih => obtain ⟨_, _, rfl, e, k⟩ := k.cons_inv; exact .d hd (h.forg e) (ih k)
theorem Rel.forg {Y : Led} {Z : Fz} {W : List Ent} {h : Heap} {H : List HO} {loc loc' : List (Option AV)} (r : Rel g C Y Z W ⟨H, loc⟩ h) (k : Forg loc loc') : Rel g C Y Z W ⟨H, loc'⟩ h := by
  obtain ⟨mF, kd, Cs, r⟩ := r
  refine ⟨mF, kd, Cs, ⟨r.fr, r.nw, r.nd, ?_, r.or⟩⟩
  have lo := r.lo
  unfold Loc at lo ⊢
  generalize C.mode = md at lo ⊢
  cases md with
  | fn => exact ⟨lo.1, lo.2.forg k⟩
  | cp Lc m₀ =>
    obtain ⟨h1, o, m, h2, h3, h4⟩ := lo
    exact ⟨h1, o, m, h2, h3, h4.forg k⟩
theorem X_forget {t : Sem Flow} {Q : AF → St → Prop} {H : List HO} {loc loc' : List (Option AV)} (k : Forg loc loc') (h : AX g C X t Q ⟨H, loc'⟩) : AX g C X t Q ⟨H, loc⟩ :=
  AX.before h fun Y Z W hh r => ⟨Z, W, r.forg k, FLe.refl Z, PC.refl _⟩
theorem H_forget {α β : Type} {R : Fz → List Addr → β → α → Prop} {xs : List AV} {f : List Value → Sem α} {Q : β → St → Prop} {H : List HO} {loc loc' : List (Option AV)} (k : Forg loc loc') (h : AWh g C X R xs f Q ⟨H, loc'⟩) : AWh g C X R xs f Q ⟨H, loc⟩ :=
  fun Y Z W hh tk r => h Y Z W hh tk (r.forg k)
theorem nr_f {k : Nat} {us : List FV} : NRo k (.lst (us.map .f)) := fun x hx => by obtain ⟨v, _, rfl⟩ := List.mem_map.mp hx; trivial
theorem nr_i {k : Nat} {us : List Int} : NRo k (.lst (us.map .int)) := fun x hx => by obtain ⟨v, _, rfl⟩ := List.mem_map.mp hx; trivial
/-- all but the well and what is kept is frozen -/
theorem X_frz2 {t : Sem Flow} {Q : AF → St → Prop} {ws : List Int} {kp : List FV} {T : List HO} {loc loc' : List (Option AV)} (hpl : C.pl = false) (e : loc.map (frzA 2 T) = loc')
    (h : AX g C X t Q ⟨[.lst (ws.map .int), .lst (kp.map .f)], loc'⟩) : AX g C X t Q ⟨[.lst (ws.map .int), .lst (kp.map .f)] ++ T, loc⟩ :=
  X_frz hpl (fun o ho => by
    rcases List.mem_cons.mp ho with rfl | ho
    · exact nr_i
    · rw [List.mem_singleton.mp ho]; exact nr_f) (by show AX g C X t Q ⟨_, loc.map (frzA 2 T)⟩; rw [e]; exact h)
/-- all but the well is frozen -/
theorem X_frz1 {t : Sem Flow} {Q : AF → St → Prop} {ws : List Int} {T : List HO} {loc loc' : List (Option AV)} (hpl : C.pl = false) (e : loc.map (frzA 1 T) = loc')
    (h : AX g C X t Q ⟨[.lst (ws.map .int)], loc'⟩) : AX g C X t Q ⟨[.lst (ws.map .int)] ++ T, loc⟩ :=
  X_frz hpl (fun o ho => by rw [List.mem_singleton.mp ho]; exact nr_i) (by show AX g C X t Q ⟨_, loc.map (frzA 1 T)⟩; rw [e]; exact h)
theorem comp_fil {elt c : Expr} {cv : List (Option AV)} {Qend : List AV → List HO → Prop} {H : List HO} (p : Nat → Bool) (f : Nat → FV) : ∀ {l : List Nat} {acc : List AV},
    (∀ i ∈ l, AWb g C XC.no (isTrue c C.env (eval c C.env)) (fun b σ₁ => b = p i ∧ σ₁ = ⟨H, some (.f (.int (i : Int))) :: cv⟩) ⟨H, some (.f (.int (i : Int))) :: cv⟩) →
    (∀ i ∈ l, p i = true → AW g C XC.no (eval elt C.env) (fun v σ' => v = .f (f i) ∧ σ' = ⟨H, some (.f (.int (i : Int))) :: cv⟩) ⟨H, some (.f (.int (i : Int))) :: cv⟩) →
    Qend (acc ++ ((l.filter p).map f).map .f) H → CompQ g C elt [c] cv Qend (l.map fun (j : Nat) => .int (j : Int)) acc H
  | [], acc, _, _, h => CompQ_nil (by simpa using h)
  | i :: l, acc, k1, k2, h => by
    rw [List.map_cons]
    refine CompQ_if (AWg.mono (k1 i (.head _)) ?_)
    rintro b σ₁ ⟨rfl, rfl⟩
    refine ⟨rfl, fun q => ?_, fun q => ?_⟩
    · refine AWg.mono (k2 i (.head _) q) ?_
      rintro v σ' ⟨rfl, rfl⟩
      refine ⟨rfl, comp_fil p f (fun j hj => k1 j (.tail _ hj)) (fun j hj => k2 j (.tail _ hj)) ?_⟩
      rw [List.filter_cons_of_pos q] at h
      rw [List.append_assoc]; exact h
    · refine comp_fil p f (fun j hj => k1 j (.tail _ hj)) (fun j hj => k2 j (.tail _ hj)) ?_
      rw [List.filter_cons_of_neg (by rw [q]; decide)] at h
      exact h
theorem range_nat (m : Nat) : rangeL 0 (m : Int) = (List.range m).map fun (j : Nat) => .int (j : Int) := by
  unfold rangeL
  have : ((m : Int) - 0).toNat = m := by omega
  rw [this]
  exact List.map_congr_left fun j _ => by rw [Int.zero_add]
/-- a comprehension over range(m) -/
theorem comp_ran {elt : Expr} {cv : List (Option AV)} {Qend : List AV → List HO → Prop} {H : List HO} {m : Nat} (f : Nat → FV)
    (k : ∀ i : Nat, i < m → AW g C XC.no (eval elt C.env) (fun v σ' => v = .f (f i) ∧ σ' = ⟨H, some (.f (.int (i : Int))) :: cv⟩) ⟨H, some (.f (.int (i : Int))) :: cv⟩)
    (h : Qend (([] : List AV) ++ ((List.range m).map f).map .f) H) : CompQ g C elt [] cv Qend (rangeL 0 (m : Int)) [] H := by
  rw [range_nat]
  exact comp_rel (All2.left (All2.right fun i hi => k i (List.mem_range.mp hi))) h
end
section
variable {g : Gl} {C : Cx} {X : XC} {σ : St} {n : Nat}
theorem comp_filF {elt c : Expr} {cv : List (Option AV)} {Qend : List AV → List HO → Prop} {H : List HO} (p : FV → Bool) : ∀ {l : List FV} {acc : List AV},
    (∀ i ∈ l, AWb g C XC.no (isTrue c C.env (eval c C.env)) (fun b σ₁ => b = p i ∧ σ₁ = ⟨H, some (.f i) :: cv⟩) ⟨H, some (.f i) :: cv⟩) →
    (∀ i ∈ l, AW g C XC.no (eval elt C.env) (fun v σ' => v = .f i ∧ σ' = ⟨H, some (.f i) :: cv⟩) ⟨H, some (.f i) :: cv⟩) →
    Qend (acc ++ (l.filter p).map .f) H → CompQ g C elt [c] cv Qend l acc H
  | [], acc, _, _, h => CompQ_nil (by simpa using h)
  | i :: l, acc, k1, k2, h => by
    refine CompQ_if (AWg.mono (k1 i (.head _)) ?_)
    rintro b σ₁ ⟨rfl, rfl⟩
    refine ⟨rfl, fun q => ?_, fun q => ?_⟩
    · refine AWg.mono (k2 i (.head _)) ?_
      rintro v σ' ⟨rfl, rfl⟩
      refine ⟨rfl, comp_filF p (fun j hj => k1 j (.tail _ hj)) (fun j hj => k2 j (.tail _ hj)) ?_⟩
      rw [List.filter_cons_of_pos q] at h
      rw [List.append_assoc]; exact h
    · refine comp_filF p (fun j hj => k1 j (.tail _ hj)) (fun j hj => k2 j (.tail _ hj)) ?_
      rw [List.filter_cons_of_neg (by rw [q]; decide)] at h
      exact h
noncomputable def notNames : FV → Bool
  | .lst (.str s :: _) => s != "names"
  | _ => false
theorem besides_form : ∀ {fac : Bool} {nm : Option (List FV)}, ∀ x ∈ besides fac nm, ∃ s t, x = .lst [.str s, t] := by
  have h1 : ∀ fac, ∀ x ∈ facT fac, ∃ s t, x = .lst [.str s, t] := by
    intro fac
    cases fac with
    | false => intro x h; cases h
    | true =>
      intro x h
      rcases List.mem_cons.mp h with rfl | h
      · exact ⟨_, _, rfl⟩
      · rw [List.mem_singleton.mp h]; exact ⟨_, _, rfl⟩
  intro fac nm x h
  cases nm with
  | none => exact h1 fac x h
  | some l =>
    rcases List.mem_append.mp h with q | q
    · exact h1 fac x q
    · rw [List.mem_singleton.mp q]; exact ⟨_, _, rfl⟩
theorem besides_filter {fac : Bool} {nm : Option (List FV)} : (besides fac nm).filter notNames = facT fac := by
  cases fac <;> cases nm <;> rfl
theorem any_one (c i : Nat) : ([(c : Int)].any (· == (i : Int))) = (i == c) := by
  by_cases h : i = c
  · subst h; simp
  · have h1 : (i == c) = false := beq_eq_false_iff_ne.mpr h
    have h2 : ((c : Int) == (i : Int)) = false := beq_eq_false_iff_ne.mpr (by omega)
    rw [h1]; simp [h2]
theorem spots_le {ns : List Str} {t : Str} : (spotsL ns t).length ≤ ns.length := by
  unfold spotsL
  exact Nat.le_trans (List.length_filter_le _ _) (by rw [List.length_range]; exact Nat.le_refl _)
end

theorem name_at : ∀ d : Nat, d < 4 → ∃ t ∈ names4, ([.str "x", .str "y", .str "z", .str "w.1"] : List FV).getD d .none = .str t
  | 0, _ => ⟨"x", by decide, rfl⟩
  | 1, _ => ⟨"y", by decide, rfl⟩
  | 2, _ => ⟨"z", by decide, rfl⟩
  | 3, _ => ⟨"w.1", by decide, rfl⟩
  | d + 4, h => absurd h (Nat.not_lt_of_le (Nat.le_add_left 4 d))
noncomputable def nmsOf (sz : Nat) : List FV := (List.range sz).map fun (j : Nat) => .str (("n" : Str) ++ Str.ofString (toString (j : Int)))
/-- a value drawn: what is told of it -/
inductive VS (g : Gl) (ns : List Str) (tall : Nat) : Nat → Nat → FV → FV → Prop
  | nul : VS g ns tall 6 0 .nul (.lst [.str "NULL", .lst [], .lst []])
  | val {sort sz : Nat} {k : Str} {its ts : List FV} {fac : Bool} {nm : Option (List FV)} (h6 : sort < 6) (v : Val g sz k its ts) (hk : k = "list" → fac = false ∧ nm = none) (hz : sz ≤ 6) (he : ns = [] → tall = 0 → sz = 0) (hn : nm = none ∨ nm = some (nmsOf sz)) :
      VS g ns tall sort sz (.vec k (.lst its) (At.fv (atOf fac nm))) (.lst [.str k, .lst ts, .lst (besides fac nm)])
theorem nms_len {sz : Nat} : (nmsOf sz).length = sz := by unfold nmsOf; rw [List.length_map, List.length_range]
theorem VS.told {g : Gl} (hg : HK g) {ns : List Str} {tall sort sz : Nat} {v tv : FV} (h : VS g ns tall sort sz v tv) : ToldC g 3 v tv := by
  cases h with
  | nul => exact told_nul hg
  | val h6 v hk hz he hn =>
    refine told_val hg v (by omega) fun l e => ?_
    rcases hn with rfl | rfl
    · cases e
    · cases e; rw [nms_len]; omega
/-- a pair that is kept: a value and what was told of it -/
noncomputable def KeptOk (g : Gl) (p : FV) : Prop := ∃ v s : FV, p = .lst [v, s] ∧ ToldC g 4 v s ∧ s.good = true ∧ s.dat.depth ≤ 64
/-- the state at the loop's head, k rounds to come -/
inductive LInv (g : Gl) (tall : Nat) (rk : Str) (ri : List FV) (rh : FV) (k : Nat) (σ : St) : Prop
  | mk (ws : List Int) (kp : List FV) (ns : List Str) (cols ts : List FV) (loc : List (Option AV)) (hσ : σ = ⟨[.lst (ws.map .int), .lst (kp.map .f)], loc⟩) (hF : Forg loc [none, none, none, none, none, some (.f (.lst (mdl ns ts))), none, none, some (.ref 0), none, none, some (.int tall), none, none, none, some (.f rh), some (.f (FV.dfr (ns.map .str) cols rk ri)), some (.ref 1), none, none, none, none, none, none, none, none, none]) (hw : ws.length ≤ 100) (hc : Cols g tall ns cols ts) (hn : ns.length + k ≤ 50) (hk : kp.length + 2 * k ≤ 100) (hp : ∀ p ∈ kp, KeptOk g p)
noncomputable def unbB (x : Str) : List Slot → List (Option AV) → Bool
  | .l y :: ss, u :: us => (!(y == x) || u.isNone) && unbB x ss us
  | _ :: ss, _ :: us => unbB x ss us
  | _, _ => true
theorem unb_of {x : Str} : ∀ {ss : List Slot} {us : List (Option AV)}, unbB x ss us = true → Unb x ss us
  | .l y :: ss, u :: us, h => by
    have h : ((!(y == x) || u.isNone) && unbB x ss us) = true := h
    rw [Bool.and_eq_true] at h
    refine ⟨fun e => ?_, unb_of h.2⟩
    have := h.1
    rw [e, beq_self_eq_true] at this
    exact Option.isNone_iff_eq_none.mp (by simpa using this)
  | .c _ _ :: ss, _ :: us, h => unb_of (ss := ss) (us := us) h
  | .d _ _ :: ss, _ :: us, h => unb_of (ss := ss) (us := us) h
  | [], _, _ => trivial
  | .l _ :: _, [], _ => trivial
  | .c _ _ :: _, [], _ => trivial
  | .d _ _ :: _, [], _ => trivial
theorem nms_good : ∀ sz : Nat, sz ≤ 6 → FV.goods (nmsOf sz) = true ∧ ∀ x ∈ nmsOf sz, x.dat.depth ≤ 1 := by
  intro sz h
  refine ⟨?_, fun x hx => ?_⟩
  · have : ∀ sz : Fin 7, FV.goods (nmsOf sz) = true := by decide +kernel
    exact this ⟨sz, by omega⟩
  · obtain ⟨j, _, rfl⟩ := List.mem_map.mp hx
    exact Nat.zero_le _
theorem VS.fine {g : Gl} {ns : List Str} {tall sort sz : Nat} {v tv : FV} (h : VS g ns tall sort sz v tv) : tv.good = true ∧ tv.dat.depth ≤ 64 := by
  cases h with
  | nul => exact ⟨by decide +kernel, by decide +kernel⟩
  | val h6 v hk hz he hn =>
    rename_i k its ts fac nm
    rcases hn with rfl | rfl
    · have := val_fine (fac := fac) v
      exact ⟨this.1, Nat.le_trans this.2 (by decide)⟩
    · exact named_good v (nms_good _ hz).1 (nms_good _ hz).2
theorem frz_l2 {xs : List FV} : frzA 2 [.lst (xs.map .f)] (some (.ref 2)) = some (.f (.lst xs)) := by
  have h0 : toF 9 2 [HO.lst (xs.map .f)] (.ref 2) = some (.lst xs) := by
    show (match allSome ((xs.map AV.f).map (toF 8 2 _)) with | some l => some (FV.lst l) | none => none) = _
    rw [allSome_f]
  show (match toF 9 2 [HO.lst (xs.map .f)] (.ref 2) with | some v => some (AV.f v) | none => none) = _
  rw [h0]
section
variable {g : Gl} {C : Cx} {X : XC} {σ : St} {n : Nat}
theorem loop2_step (hg : HK g) (ok : Ok g C (n + 8)) {f : Addr} {cdv : Value} {qual : Str} (lf : LF g C f cdv qual) {ws : List Int} {kp : List FV} {ns : List Str} {cols ts ri : List FV} {rk : Str} {rh : FV} {tall : Nat}
    (hw : ws.length ≤ 100) (hc : Cols g tall ns cols ts) (hri : ri.length = tall) (hrk : tall = 0 → rk = "integer") (ht3 : tall ≤ 3) (hrt : ToldC g 3 (.vec rk (.lst ri) .none) rh) (hrf : fine rh) {k : Nat} (hk1 : ns.length + (k + 1) ≤ 50) (hk2 : kp.length + 2 * (k + 1) ≤ 100) (hkp : ∀ p ∈ kp, KeptOk g p)
    {Q : AF → St → Prop} (hQ : ∀ σ', LInv g tall rk ri rh k σ' → Q .next σ') : AX g C XC.no (execs loop2 C.env) Q ⟨[.lst (ws.map .int), .lst (kp.map .f)], [none, none, none, none, none, some (.f (.lst (mdl ns ts))), none, none, some (.ref 0), none, none, some (.int tall), none, none, none, some (.f rh), some (.f (FV.dfr (ns.map .str) cols rk ri)), some (.ref 1), none, none, none, none, none, none, none, none, none]⟩ := by
  conv in loop2 => whnf
  have he := lf.he
  conv at he => rhs; arg 2; whnf
  have hs := lf.hs
  have hm := lf.hm
  have hpl := lf.hpl
  have hl := hc.tlen
  have hnz : ns.length ≤ 100 := Nat.le_trans (Nat.le_add_right _ _) (Nat.le_trans hk1 (by decide))
  have hnk : ns.length ≤ 1000 := Nat.le_trans hnz (by decide)
  have hml : (mdl ns ts).length = ns.length := mdl_len hl
  have hmz : (mdl ns ts).length ≤ 1000 := hml ▸ hnk
  have hm20 := le20 hmz
  have ht1k : tall ≤ 1000 := Nat.le_trans ht3 (by decide)
  walk_at "awm"
  refine dip_n hg ok (L := 4) (ws := ws) rfl (by decide) (by decide) (by decide) hw fun d₁ ws₁ h₁ hw₁ => ?_
  refine G_at (xs := [.str "x", .str "y", .str "z", .str "w.1"]) h₁ (by simp) ?_
  obtain ⟨t, ht, e₁⟩ := name_at d₁ h₁
  rw [e₁]
  have hsk : (spotsL ns t).length ≤ 1000 := Nat.le_trans spots_le hnk
  have hs20 : ((spotsL ns t).map fun (i : Nat) => FV.int (i : Int)).length ≤ 2 ^ 20 := le20m hsk
  -- ix
  iterate 4 kbo_bools
  refine AWg.cut (Q' := fun v σ' => ∃ (ix : FV) (ws₂ : List Int), v = .f ix ∧ (ix = .sym t ∨ ix = .vec "character" (.lst [.str t]) .none) ∧ ws₂.length ≤ 100 ∧ σ' = ⟨[.lst (ws₂.map .int), .lst (kp.map .f)], [none, none, none, none, some (.str t), some (.f (.lst (mdl ns ts))), none, none, some (.ref 0), none, none, some (.int tall), none, none, none, some (.f rh), some (.f (FV.dfr (ns.map .str) cols rk ri)), some (.ref 1), none, none, none, none, none, none, none, none, none]⟩) (fun Q1 hQ1 => ?_) ?_
  · walk_at "awm"
    refine dip_n hg ok (L := 2) (ws := ws₁) rfl (by decide) (by decide) (by decide) hw₁ fun d₂ ws₂ h₂ hw₂ => ?_
    walk_at "awm"
    refine ⟨fun q => ?_, fun q => ?_⟩
    · walk_at "awm"
      refine sym_F hg ok ?_
      exact hQ1 _ _ ⟨_, ws₂, rfl, .inl rfl, hw₂, rfl⟩
    · walk_at "awm"
      refine vec_F2 hg ok ?_
      exact hQ1 _ _ ⟨_, ws₂, rfl, .inr rfl, hw₂, rfl⟩
  rintro v σ' ⟨ix, ws₂, rfl, hix, hw₂, rfl⟩
  walk_at "awm"
  -- sort, value, size
  refine dip_n hg ok (L := 7) (ws := ws₂) rfl (by decide) (by decide) (by decide) hw₂ fun sort ws₃ h₃ hw₃ => ?_
  walk_at "awm"
  refine null_F hg ok ?_
  iterate 8 kbo_bools
  refine AX.cut (Q' := fun fl σ' => fl = .next ∧ ∃ (ws₄ : List Int) (sz : Nat) (v tv : FV) (jw : Option AV), ws₄.length ≤ 100 ∧ VS g ns tall sort sz v tv ∧
    σ' = ⟨[.lst (ws₄.map .int), .lst (kp.map .f)], [none, none, none, some (.int sz), some (.str t), some (.f (.lst (mdl ns ts))), none, none, some (.ref 0), none, none, some (.int tall), none, some (.int sort), none, some (.f rh), some (.f (FV.dfr (ns.map .str) cols rk ri)), some (.ref 1), some (.f ix), some (.f v), jw, none, none, none, none, none, none]⟩) (fun Q2 hQ2 => ?_) ?_
  · walk_at "awm"
    refine ⟨fun q => ?_, fun q => ?_⟩
    · have h6 : sort < 6 := Int.ofNat_lt.mp (of_decide_eq_true q)
      walk_at "awm"
      refine dip_n hg ok (L := 4) (ws := ws₃) rfl (by decide) (by decide) (by decide) hw₃ fun way ws₄ h₄ hw₄ => ?_
      iterate 4 kbo_bools
      -- size
      refine AWg.cut (Q' := fun v σ' => ∃ (sz : Nat) (ws₅ : List Int), v = .int sz ∧ sz ≤ 6 ∧ ws₅.length ≤ 100 ∧ σ' = ⟨[.lst (ws₅.map .int), .lst (kp.map .f)], [none, none, none, some (.int 0), some (.str t), some (.f (.lst (mdl ns ts))), none, none, some (.ref 0), none, none, some (.int tall), none, some (.int sort), none, some (.f rh), some (.f (FV.dfr (ns.map .str) cols rk ri)), some (.ref 1), some (.f ix), some (.f .nul), some (.int way), none, none, none, none, none, none]⟩) (fun Q3 hQ3 => ?_) ?_
      · walk_at "awm"
        refine ⟨fun q => ?_, fun q => ?_⟩
        · walk_at "awm"
          refine dip_n hg ok (L := 7) (ws := ws₄) rfl (by decide) (by decide) (by decide) hw₄ fun sz ws₅ h₅ hw₅ => ?_
          exact hQ3 _ _ ⟨sz, ws₅, rfl, Nat.le_of_lt_succ h₅, hw₅, rfl⟩
        · have h3 := beq_eq_false_iff_ne.mp q
          walk_at "awm"
          refine G_at (xs := [.int tall, .int 1, .int 2]) (way3 h₄ h3) (by simp) ?_
          obtain rfl | rfl | rfl := of3 _ (way3 h₄ h3)
          · exact hQ3 _ _ ⟨tall, ws₄, rfl, Nat.le_trans ht3 (by decide), hw₄, rfl⟩
          · exact hQ3 _ _ ⟨1, ws₄, rfl, by decide, hw₄, rfl⟩
          · exact hQ3 _ _ ⟨2, ws₄, rfl, by decide, hw₄, rfl⟩
      rintro v σ' ⟨sz₀, ws₅, rfl, hs₀, hw₅, rfl⟩
      iterate 3 kbo_bools
      refine AX.cut (Q' := fun fl σ' => fl = .next ∧ ∃ sz : Nat, sz ≤ 6 ∧ (ns = [] → tall = 0 → sz = 0) ∧ σ' = ⟨[.lst (ws₅.map .int), .lst (kp.map .f)], [none, none, none, some (.int sz), some (.str t), some (.f (.lst (mdl ns ts))), none, none, some (.ref 0), none, none, some (.int tall), none, some (.int sort), none, some (.f rh), some (.f (FV.dfr (ns.map .str) cols rk ri)), some (.ref 1), some (.f ix), some (.f .nul), some (.int way), none, none, none, none, none, none]⟩) (fun Q4 hQ4 => ?_) ?_
      · by_cases h0 : ns = [] ∧ tall = 0
        · obtain ⟨rfl, rfl⟩ := h0
          obtain rfl : ts = [] := List.length_eq_zero_iff.mp hl.symm
          walk_at "awm"
          exact hQ4 _ _ ⟨rfl, 0, by decide, fun _ _ => rfl, rfl⟩
        · refine X_if (AWg.cut (Q' := fun b σ' => b = false ∧ σ' = ⟨[.lst (ws₅.map .int), .lst (kp.map .f)], [none, none, none, some (.int sz₀), some (.str t), some (.f (.lst (mdl ns ts))), none, none, some (.ref 0), none, none, some (.int tall), none, some (.int sort), none, some (.f rh), some (.f (FV.dfr (ns.map .str) cols rk ri)), some (.ref 1), some (.f ix), some (.f .nul), some (.int way), none, none, none, none, none, none]⟩) (fun Q5 hQ5 => ?_) (by rintro b σ' ⟨rfl, rfl⟩; exact ⟨fun q => (by cases q), fun _ => X_nil (hQ4 _ _ ⟨rfl, sz₀, hs₀, fun a b => absurd ⟨a, b⟩ h0, rfl⟩)⟩))
          walk_at "awm"
          refine ⟨fun q => ?_, fun q => hQ5 _ _ ⟨rfl, rfl⟩⟩
          have hc0 : ns = [] := by
            have := beq_iff_eq.mp q
            rw [List.length_map, mdl_len hl] at this
            exact List.length_eq_zero_iff.mp (Int.ofNat_eq_zero.mp this)
          walk_at "awm"
          refine ⟨fun q => ?_, fun _ => hQ5 _ _ ⟨rfl, rfl⟩⟩
          have := beq_iff_eq.mp q
          exact absurd ⟨hc0, Int.ofNat_eq_zero.mp this⟩ h0
      · rintro fl σ' ⟨rfl, sz, hsz, hsn, rfl⟩
        walk_at "awm"
        have hsz1k : sz ≤ 1000 := Nat.le_trans hsz (by decide)
        refine fresh_spec hg ok (ws := ws₅) rfl (by decide) hw₅ (Nat.le_trans hsz (by decide)) h6 (fun ws₆ k its ts' hw₆ v hk5 hk4 => ?_) fun ws₆ its hw₆ v hs4 => ?_
        · -- no factor
          change Bind C ⟨[.lst (ws₆.map .int), .lst (kp.map .f), .ins 99 vkeys [.str k, .f (.lst its), .none, .bool false, .bool false]], [none, none, none, some (.int sz), some (.str t), some (.f (.lst (mdl ns ts))), none, none, some (.ref 0), none, none, some (.int tall), none, some (.int sort), none, some (.f rh), some (.f (FV.dfr (ns.map .str) cols rk ri)), some (.ref 1), some (.f ix), some (.f .nul), some (.int way), none, none, none, none, none, none]⟩ "value" (.ref 2) _
          iterate 4 kbo_bools
          refine AWg.cut (Q' := fun b σ' => ∃ ws₇ : List Int, ws₇.length ≤ 100 ∧ (b = true → sort ≠ 5) ∧ σ' = ⟨[.lst (ws₇.map .int), .lst (kp.map .f), .ins 99 vkeys [.str k, .f (.lst its), .none, .bool false, .bool false]], [none, none, none, some (.int sz), some (.str t), some (.f (.lst (mdl ns ts))), none, none, some (.ref 0), none, none, some (.int tall), none, some (.int sort), none, some (.f rh), some (.f (FV.dfr (ns.map .str) cols rk ri)), some (.ref 1), some (.f ix), some (.ref 2), some (.int way), none, none, none, none, none, none]⟩) (fun Q6 hQ6 => ?_) ?_
          · walk_at "awm"
            refine dip_n hg ok (L := 2) (ws := ws₆) rfl (by decide) (by decide) (by decide) hw₆ fun d₅ ws₇ h₇ hw₇ => ?_
            walk_at "awm"
            refine ⟨fun q => ?_, fun q => hQ6 _ _ ⟨ws₇, hw₇, (fun e => nomatch e), rfl⟩⟩
            walk_at "awm"
            refine ⟨fun q => ?_, fun q => hQ6 _ _ ⟨ws₇, hw₇, (fun e => nomatch e), rfl⟩⟩
            have hq := bne_iff_ne.mp q
            walk_at "awm"
            exact hQ6 _ _ ⟨ws₇, hw₇, fun _ => int_ne hq, rfl⟩
          rintro b σ' ⟨ws₇, hw₇, hq, rfl⟩
          refine ⟨fun e => ?_, fun _ => ?_⟩
          · replace hq := hq e
            walk_at "awm"
            intro C₂ ok₂ he₂ hs₂ hpl₂
            obtain ⟨Lc, he₂⟩ := he₂
            rw [he] at he₂
            rw [hs] at hs₂
            replace hs₂ : C₂.slots = .l "at" :: [.d "column" (C.L + 9), .d "spots" (C.L + 8), .d "before" (C.L + 7), .d "size" (C.L + 6), .d "name" (C.L + 5), .d "model" (C.L + 4), .d "columns" (C.L + 3), .d "heads" (C.L + 2), .d "well" (C.L + 1)] := hs₂
            rw [hs]
            refine comp_ran (fun j => .str (("n" : Str) ++ Str.ofString (toString (j : Int)))) (fun j hj => ?_) (ce_rel ?_)
            · change AW _ _ _ _ _ ⟨_, some (.f (.int (j : Int))) :: [none, none, none, some (.int sz), some (.str t), some (.f (.lst (mdl ns ts))), none, none, some (.ref 0)]⟩
              walk_at "awm"
              refine L_str (i := (j : Int)) (log_n (Nat.le_trans (Nat.le_of_lt hj) hsz1k)) ?_
              refine B_adds (add20 (a := 1) (by decide) (str_small (Nat.le_trans (Nat.le_of_lt hj) hsz1k)) (by decide)) ?_
              exact ⟨rfl, rfl⟩
            walk_at "awm"
            refine vec_F2 (it := .lst (nmsOf sz)) hg ok ?_
            iterate 6 kbo_bools
            change AX _ _ _ _ _ ⟨[.lst (ws₇.map .int), .lst (kp.map .f)] ++ [.ins 99 vkeys [.str k, .f (.lst its), .ref 3, .bool false, .bool false], .dct ["names"] [.f (.vec "character" (.lst (nmsOf sz)) .none)]], _⟩
            refine X_frz2 (loc' := [none, none, none, some (.int sz), some (.str t), some (.f (.lst (mdl ns ts))), none, none, some (.ref 0), none, none, some (.int tall), none, some (.int sort), none, some (.f rh), some (.f (FV.dfr (ns.map .str) cols rk ri)), some (.ref 1), some (.f ix), some (.f (.vec k (.lst its) (At.fv (atOf false (some (nmsOf sz)))))), some (.int way), none, none, none, none, none, none]) hpl rfl (X_nil (K_next (X_nil (hQ2 _ _ ⟨rfl, ws₇, sz, _, _, _, hw₇, .val h6 v (fun e => absurd (hk5.mp e) hq) hsz hsn (.inr rfl), rfl⟩))))
          · change AX _ _ _ _ _ ⟨[.lst (ws₇.map .int), .lst (kp.map .f)] ++ [.ins 99 vkeys [.str k, .f (.lst its), .none, .bool false, .bool false]], _⟩
            refine X_frz2 (loc' := [none, none, none, some (.int sz), some (.str t), some (.f (.lst (mdl ns ts))), none, none, some (.ref 0), none, none, some (.int tall), none, some (.int sort), none, some (.f rh), some (.f (FV.dfr (ns.map .str) cols rk ri)), some (.ref 1), some (.f ix), some (.f (.vec k (.lst its) (At.fv (atOf false none)))), some (.int way), none, none, none, none, none, none]) hpl rfl (X_nil (K_next (X_nil (hQ2 _ _ ⟨rfl, ws₇, sz, _, _, _, hw₇, .val h6 v (fun e => ⟨rfl, rfl⟩) hsz hsn (.inl rfl), rfl⟩))))
        · -- a factor
          change Bind C ⟨[.lst (ws₆.map .int), .lst (kp.map .f), .dct ["levels", "class"] [.f lvA, .f lvB], .ins 99 vkeys [.str "integer", .f (.lst its), .ref 2, .bool false, .bool false]], [none, none, none, some (.int sz), some (.str t), some (.f (.lst (mdl ns ts))), none, none, some (.ref 0), none, none, some (.int tall), none, some (.int sort), none, some (.f rh), some (.f (FV.dfr (ns.map .str) cols rk ri)), some (.ref 1), some (.f ix), some (.f .nul), some (.int way), none, none, none, none, none, none]⟩ "value" (.ref 3) _
          iterate 4 kbo_bools
          refine AWg.cut (Q' := fun b σ' => ∃ ws₇ : List Int, ws₇.length ≤ 100 ∧ (b = true → sort ≠ 5) ∧ σ' = ⟨[.lst (ws₇.map .int), .lst (kp.map .f), .dct ["levels", "class"] [.f lvA, .f lvB], .ins 99 vkeys [.str "integer", .f (.lst its), .ref 2, .bool false, .bool false]], [none, none, none, some (.int sz), some (.str t), some (.f (.lst (mdl ns ts))), none, none, some (.ref 0), none, none, some (.int tall), none, some (.int sort), none, some (.f rh), some (.f (FV.dfr (ns.map .str) cols rk ri)), some (.ref 1), some (.f ix), some (.ref 3), some (.int way), none, none, none, none, none, none]⟩) (fun Q7 hQ7 => ?_) ?_
          · walk_at "awm"
            refine dip_n hg ok (L := 2) (ws := ws₆) rfl (by decide) (by decide) (by decide) hw₆ fun d₅ ws₇ h₇ hw₇ => ?_
            walk_at "awm"
            refine ⟨fun q => ?_, fun q => hQ7 _ _ ⟨ws₇, hw₇, (fun e => nomatch e), rfl⟩⟩
            walk_at "awm"
            refine ⟨fun q => ?_, fun q => hQ7 _ _ ⟨ws₇, hw₇, (fun e => nomatch e), rfl⟩⟩
            have hq := bne_iff_ne.mp q
            walk_at "awm"
            exact hQ7 _ _ ⟨ws₇, hw₇, fun _ => int_ne hq, rfl⟩
          rintro b σ' ⟨ws₇, hw₇, hq, rfl⟩
          refine ⟨fun e => ?_, fun _ => ?_⟩
          · replace hq := hq e
            walk_at "awm"
            intro C₂ ok₂ he₂ hs₂ hpl₂
            obtain ⟨Lc, he₂⟩ := he₂
            rw [he] at he₂
            rw [hs] at hs₂
            replace hs₂ : C₂.slots = .l "at" :: [.d "column" (C.L + 9), .d "spots" (C.L + 8), .d "before" (C.L + 7), .d "size" (C.L + 6), .d "name" (C.L + 5), .d "model" (C.L + 4), .d "columns" (C.L + 3), .d "heads" (C.L + 2), .d "well" (C.L + 1)] := hs₂
            rw [hs]
            refine comp_ran (fun j => .str (("n" : Str) ++ Str.ofString (toString (j : Int)))) (fun j hj => ?_) (ce_rel ?_)
            · change AW _ _ _ _ _ ⟨_, some (.f (.int (j : Int))) :: [none, none, none, some (.int sz), some (.str t), some (.f (.lst (mdl ns ts))), none, none, some (.ref 0)]⟩
              walk_at "awm"
              refine L_str (i := (j : Int)) (log_n (Nat.le_trans (Nat.le_of_lt hj) hsz1k)) ?_
              refine B_adds (add20 (a := 1) (by decide) (str_small (Nat.le_trans (Nat.le_of_lt hj) hsz1k)) (by decide)) ?_
              exact ⟨rfl, rfl⟩
            walk_at "awm"
            refine vec_F2 (it := .lst (nmsOf sz)) hg ok ?_
            iterate 6 kbo_bools
            change AX _ _ _ _ _ ⟨[.lst (ws₇.map .int), .lst (kp.map .f)] ++ [.dct ["levels", "class", "names"] [.f lvA, .f lvB, .f (.vec "character" (.lst (nmsOf sz)) .none)], .ins 99 vkeys [.str "integer", .f (.lst its), .ref 2, .bool false, .bool false]], _⟩
            refine X_frz2 (loc' := [none, none, none, some (.int sz), some (.str t), some (.f (.lst (mdl ns ts))), none, none, some (.ref 0), none, none, some (.int tall), none, some (.int sort), none, some (.f rh), some (.f (FV.dfr (ns.map .str) cols rk ri)), some (.ref 1), some (.f ix), some (.f (.vec "integer" (.lst its) (At.fv (atOf true (some (nmsOf sz)))))), some (.int way), none, none, none, none, none, none]) hpl rfl (X_nil (K_next (X_nil (hQ2 _ _ ⟨rfl, ws₇, sz, _, _, _, hw₇, .val h6 v (fun e => absurd e (by decide)) hsz hsn (.inr rfl), rfl⟩))))
          · change AX _ _ _ _ _ ⟨[.lst (ws₇.map .int), .lst (kp.map .f)] ++ [.dct ["levels", "class"] [.f lvA, .f lvB], .ins 99 vkeys [.str "integer", .f (.lst its), .ref 2, .bool false, .bool false]], _⟩
            refine X_frz2 (loc' := [none, none, none, some (.int sz), some (.str t), some (.f (.lst (mdl ns ts))), none, none, some (.ref 0), none, none, some (.int tall), none, some (.int sort), none, some (.f rh), some (.f (FV.dfr (ns.map .str) cols rk ri)), some (.ref 1), some (.f ix), some (.f (.vec "integer" (.lst its) (At.fv (atOf true none)))), some (.int way), none, none, none, none, none, none]) hpl rfl (X_nil (K_next (X_nil (hQ2 _ _ ⟨rfl, ws₇, sz, _, _, _, hw₇, .val h6 v (fun e => absurd e (by decide)) hsz hsn (.inl rfl), rfl⟩))))
    · obtain rfl : sort = 6 := Nat.le_antisymm (Nat.le_of_lt_succ h₃) (Int.ofNat_le.mp (Int.not_lt.mp (of_decide_eq_false q)))
      walk_at "awm"
      exact hQ2 _ _ ⟨rfl, ws₃, 0, .nul, _, none, hw₃, .nul, rfl⟩
  · rintro fl σ' ⟨rfl, ws₄, sz, v, tv, jw, hw₄, vs, rfl⟩
    iterate 1 kbo_bools
    refine X_forget (loc' := [none, none, none, some (.int sz), some (.str t), some (.f (.lst (mdl ns ts))), none, none, some (.ref 0), none, none, some (.int tall), none, some (.int sort), none, some (.f rh), some (.f (FV.dfr (ns.map .str) cols rk ri)), some (.ref 1), some (.f ix), some (.f v), none, none, none, none, none, none, none]) (by repeat (first | exact Forg.nil | apply Forg.no | apply Forg.same)) ?_
    walk_at "awm"
    refine vs.told hg _ _ _ _ (ok.le (Nat.le_add_left _ _)) ?_
    walk_at "awm"
    refine X_assign ok ?_ (by rw [he]; rfl)
    walk_at "awm"
    intro C₂ ok₂ he₂ hs₂ hpl₂
    obtain ⟨Lc, he₂⟩ := he₂
    rw [he] at he₂
    rw [hs] at hs₂
    replace hs₂ : C₂.slots = .l "at" :: [.d "column" (C.L + 9), .d "spots" (C.L + 8), .d "before" (C.L + 7), .d "size" (C.L + 6), .c "name" (C.L + 5), .c "model" (C.L + 4), .d "columns" (C.L + 3), .d "heads" (C.L + 2), .d "well" (C.L + 1)] := hs₂
    rw [hs, List.length_map, hml, range_nat]
    refine comp_fil (fun i => ns.getD i "" == t) (fun i => .int (i : Int)) (fun i hi => ?_) (fun i hi hp => ?_) (ce_rel ?_)
    · have hi := List.mem_range.mp hi
      change AWb _ _ _ _ _ ⟨_, some (.f (.int (i : Int))) :: [none, none, some (.f tv), some (.int sz), some (.str t), some (.f (.lst (mdl ns ts))), none, none, some (.ref 0)]⟩
      walk_at "awm"
      refine G_at (xs := mdl ns ts) (hml ▸ hi) hm20 ?_
      rw [mdl_get hl hi]
      walk_at "awm"
      exact rfl
    · change AW _ _ _ _ _ ⟨_, some (.f (.int (i : Int))) :: [none, none, some (.f tv), some (.int sz), some (.str t), some (.f (.lst (mdl ns ts))), none, none, some (.ref 0)]⟩
      walk_at "awm"
      exact rfl
    change Bind C ⟨[.lst (ws₄.map .int), .lst (kp.map .f)], _⟩ _ _ _
    iterate 5 kbo_bools
    change Bind C ⟨[.lst (ws₄.map .int), .lst (kp.map .f)], [none, some (.f (.lst ((spotsL ns t).map fun (i : Nat) => .int (i : Int)))), some (.f tv), some (.int sz), some (.str t), some (.f (.lst (mdl ns ts))), none, none, some (.ref 0), none, none, some (.int tall), none, some (.int sort), none, some (.f rh), some (.f (FV.dfr (ns.map .str) cols rk ri)), some (.ref 1), some (.f ix), some (.f v), none, none, none, none, none, none, none]⟩ "words" .none _
    iterate 3 kbo_bools
    refine AX.cut (Q' := fun fl σ' => fl = .next ∧ ∃ (ns' : List Str) (cols' ts' : List FV) (r : FV ⊕ Str) (wd : FV) (jb jc : Option AV), Out ns cols t rk ri v r ∧ Cols g tall ns' cols' ts' ∧ ns'.length ≤ ns.length + 1 ∧
      ((r = .inl (FV.dfr (ns'.map .str) cols' rk ri) ∧ wd = .none) ∨ (∃ m, r = .inr m ∧ wd = .str m ∧ ns' = ns ∧ cols' = cols ∧ ts' = ts)) ∧
      σ' = ⟨[.lst (ws₄.map .int), .lst (kp.map .f)], [jc, some (.f (.lst ((spotsL ns t).map fun (i : Nat) => .int (i : Int)))), some (.f tv), some (.int sz), some (.str t), some (.f (.lst (mdl ns' ts'))), none, none, some (.ref 0), none, none, some (.int tall), none, some (.int sort), none, some (.f rh), some (.f (FV.dfr (ns.map .str) cols rk ri)), some (.ref 1), some (.f ix), some (.f v), none, some (.f wd), jb, none, none, none, none]⟩) (fun Q8 hQ8 => ?_) ?_
    · walk_at "awm"
      refine ⟨fun q => ?_, fun q => ?_⟩
      · -- a column goes
        obtain rfl : sort = 6 := Int.ofNat.inj (beq_iff_eq.mp q)
        cases vs with | val h6 => exact absurd h6 (by decide) | nul => ?_
        iterate 1 kbo_bools
        refine X_assign ok ?_ (by rw [he]; rfl)
        walk_at "awm"
        intro C₂ ok₂ he₂ hs₂ hpl₂
        obtain ⟨Lc, he₂⟩ := he₂
        rw [he] at he₂
        rw [hs] at hs₂
        replace hs₂ : C₂.slots = .l "at" :: [.d "column" (C.L + 9), .c "spots" (C.L + 8), .d "before" (C.L + 7), .d "size" (C.L + 6), .d "name" (C.L + 5), .c "model" (C.L + 4), .d "columns" (C.L + 3), .d "heads" (C.L + 2), .d "well" (C.L + 1)] := hs₂
        rw [hs, List.length_map, hml, range_nat]
        by_cases hin : t ∈ ns
        · refine comp_fil (fun i => !(i == colIx ns t)) (fun i => (mdl ns ts).getD i .none) (fun i hi => ?_) (fun i hi hp => ?_) (ce_rel ?_)
          · change AWb _ _ _ _ _ ⟨[.lst (ws₄.map .int), .lst (kp.map .f)], some (.f (.int (i : Int))) :: [none, some (.f (.lst ((spotsL ns t).map fun (i : Nat) => .int (i : Int)))), some (.f (.lst [.str "NULL", .lst [], .lst []])), some (.int (0 : Nat)), some (.str t), some (.f (.lst (mdl ns ts))), none, none, some (.ref 0)]⟩
            walk_at "awm"
            refine R_sliceU ?_
            walk_at "awm"
            refine ⟨(spotsL ns t).map fun (i : Nat) => .int (i : Int), _, rfl, by decide, rfl, hs20, ?_⟩
            rw [show (1 : Int).toNat = 1 from rfl, spots_ints]
            rw [if_pos hin]
            refine C_ninI (ns := [(colIx ns t : Int)]) rfl ?_
            rw [any_one]
            walk_at "awm"
            exact rfl
          · have hi := List.mem_range.mp hi
            change AW _ _ _ _ _ ⟨[.lst (ws₄.map .int), .lst (kp.map .f)], some (.f (.int (i : Int))) :: [none, some (.f (.lst ((spotsL ns t).map fun (i : Nat) => .int (i : Int)))), some (.f (.lst [.str "NULL", .lst [], .lst []])), some (.int (0 : Nat)), some (.str t), some (.f (.lst (mdl ns ts))), none, none, some (.ref 0)]⟩
            walk_at "awm"
            refine G_at (xs := mdl ns ts) (hml ▸ hi) hm20 ?_
            exact ⟨rfl, rfl⟩
          rw [show ((List.range ns.length).filter fun i => !(i == colIx ns t)).map (fun i => (mdl ns ts).getD i .none) = mdl (cutAt ns (colIx ns t)) (cutAt ts (colIx ns t)) from by rw [← mdl_cut hl, ← hml]; exact filt_cut]
          walk_at "awm"
          refine hQ8 _ _ ⟨rfl, cutAt ns (colIx ns t), cutAt cols (colIx ns t), cutAt ts (colIx ns t), _, .none, none, none, .nul, hc.cut _, Nat.le_trans (cut_len _ _) (Nat.le_succ _), .inl ⟨?_, rfl⟩, rfl⟩
          unfold nulCol
          rw [if_pos hin]
        · refine comp_fil (fun i => true) (fun i => (mdl ns ts).getD i .none) (fun i hi => ?_) (fun i hi hp => ?_) (ce_rel ?_)
          · change AWb _ _ _ _ _ ⟨[.lst (ws₄.map .int), .lst (kp.map .f)], some (.f (.int (i : Int))) :: [none, some (.f (.lst ((spotsL ns t).map fun (i : Nat) => .int (i : Int)))), some (.f (.lst [.str "NULL", .lst [], .lst []])), some (.int (0 : Nat)), some (.str t), some (.f (.lst (mdl ns ts))), none, none, some (.ref 0)]⟩
            walk_at "awm"
            refine R_sliceU ?_
            walk_at "awm"
            refine ⟨(spotsL ns t).map fun (i : Nat) => .int (i : Int), _, rfl, by decide, rfl, hs20, ?_⟩
            rw [show (1 : Int).toNat = 1 from rfl, spots_ints]
            rw [if_neg hin]
            refine C_ninI (ns := []) rfl ?_
            walk_at "awm"
            exact rfl
          · have hi := List.mem_range.mp hi
            change AW _ _ _ _ _ ⟨[.lst (ws₄.map .int), .lst (kp.map .f)], some (.f (.int (i : Int))) :: [none, some (.f (.lst ((spotsL ns t).map fun (i : Nat) => .int (i : Int)))), some (.f (.lst [.str "NULL", .lst [], .lst []])), some (.int (0 : Nat)), some (.str t), some (.f (.lst (mdl ns ts))), none, none, some (.ref 0)]⟩
            walk_at "awm"
            refine G_at (xs := mdl ns ts) (hml ▸ hi) hm20 ?_
            exact ⟨rfl, rfl⟩
          rw [show ((List.range ns.length).filter fun i => true).map (fun i => (mdl ns ts).getD i .none) = mdl ns ts from by rw [List.filter_eq_self.mpr (fun _ _ => rfl), ← hml]; exact get_all]
          walk_at "awm"
          refine hQ8 _ _ ⟨rfl, ns, cols, ts, _, .none, none, none, .nul, hc, Nat.le_succ _, .inl ⟨?_, rfl⟩, rfl⟩
          unfold nulCol
          rw [if_neg hin]
      · -- a column is set
        cases vs with | nul => exact absurd q (by decide) | val h6 v hk hz he₀ hn => ?_
        rename_i k its ts₀ fac nm
        have hko : k ≠ "list" ∨ atOf fac nm = .none := by
          by_cases e : k = "list"
          · obtain ⟨rfl, rfl⟩ := hk e
            exact .inr rfl
          · exact .inl e
        have hE : cols = [] → ri = [] → its = [] ∧ rk = "integer" := fun e1 e2 => by
          have h1 : tall = 0 := by rw [← hri, e2]; rfl
          have h2 : ns = [] := List.length_eq_zero_iff.mp (by rw [hc.len, e1]; rfl)
          exact ⟨List.length_eq_zero_iff.mp (by rw [v.len]; exact he₀ h2 h1), hrk h1⟩
        iterate 2 kbo_bools
        refine AWg.cut (Q' := fun b σ' => σ' = ⟨[.lst (ws₄.map .int), .lst (kp.map .f)], [none, some (.f (.lst ((spotsL ns t).map fun (i : Nat) => .int (i : Int)))), some (.f (.lst [.str k, .lst ts₀, .lst (besides fac nm)])), some (.int sz), some (.str t), some (.f (.lst (mdl ns ts))), none, none, some (.ref 0), none, none, some (.int tall), none, some (.int sort), none, some (.f rh), some (.f (FV.dfr (ns.map .str) cols rk ri)), some (.ref 1), some (.f ix), some (.f (.vec k (.lst its) (At.fv (atOf fac nm)))), none, some (.none), none, none, none, none, none]⟩ ∧ (b = true → fits sz tall) ∧ (b = false → ¬ fits sz tall)) (fun Q9 hQ9 => ?_) ?_
        · refine T_or ?_
          walk_at "awm"
          refine ⟨fun q => ?_, fun q => ?_⟩
          · have := beq_iff_eq.mp q
            exact hQ9 _ _ ⟨rfl, fun _ => .inl (Int.ofNat.inj this), fun h => nomatch h⟩
          have h1 := beq_eq_false_iff_ne.mp q
          refine T_or (T_and (T_chain ?_))
          walk_at "awm"
          refine ⟨fun q => ?_, fun q => ?_⟩
          · have h2 := of_decide_eq_false q
            walk_at "awm"
            exact hQ9 _ _ ⟨rfl, (fun h => nomatch h), fun _ hf => hf.elim (int_ne h1) fun h => h2 (Int.ofNat_lt.mpr h.1)⟩
          have h2 := of_decide_eq_true q
          walk_at "awm"
          refine ⟨fun q => ?_, fun q => ?_⟩
          · have h3 := of_decide_eq_true q
            walk_at "awm"
            refine B_mod (i := (tall : Int)) (j := (sz : Int)) (Int.ne_of_gt h2) ?_
            rw [fmod_n]
            walk_at "awm"
            refine ⟨fun q => ?_, fun q => ?_⟩
            · have h4 := beq_iff_eq.mp q
              walk_at "awm"
              exact hQ9 _ _ ⟨rfl, fun _ => .inr ⟨Int.ofNat_lt.mp h2, Int.ofNat_lt.mp h3, Int.ofNat.inj h4⟩, fun h => nomatch h⟩
            · have h4 := beq_eq_false_iff_ne.mp q
              walk_at "awm"
              exact hQ9 _ _ ⟨rfl, (fun h => nomatch h), fun _ hf => hf.elim (int_ne h1) fun h => int_ne h4 h.2.2⟩
          · have h3 := of_decide_eq_false q
            walk_at "awm"
            exact hQ9 _ _ ⟨rfl, (fun h => nomatch h), fun _ hf => hf.elim (int_ne h1) fun h => h3 (Int.ofNat_lt.mpr h.2.1)⟩
        · rintro b σ' ⟨rfl, hb1, hb2⟩
          refine ⟨fun q => ?_, fun q => ?_⟩
          · have hf := hb1 q
            have htl : ts₀.length = sz := by
              rcases v.kd with ⟨_, e⟩ | ⟨_, h⟩
              · rw [e]; exact v.len
              · rw [← h.len]; exact v.len
            have hsz1k : sz ≤ 1000 := Nat.le_trans hz (by decide)
            have htk : ts₀.length ≤ 1000 := htl ▸ hsz1k
            have hbz : (besides fac nm).length ≤ 3 := by cases fac <;> cases nm <;> simp [besides, facT]
            walk_at "awm"
            intro C₂ ok₂ he₂ hs₂ hpl₂
            obtain ⟨Lc, he₂⟩ := he₂
            rw [he] at he₂
            rw [hs] at hs₂
            replace hs₂ : C₂.slots = .l "pair" :: [.d "column" (C.L + 9), .d "spots" (C.L + 8), .d "before" (C.L + 7), .d "size" (C.L + 6), .d "name" (C.L + 5), .d "model" (C.L + 4), .d "columns" (C.L + 3), .d "heads" (C.L + 2), .d "well" (C.L + 1)] := hs₂
            rw [hs]
            refine comp_filF notNames (fun x hx => ?_) (fun x hx => ?_) (ce_rel ?_)
            · obtain ⟨s, tt, rfl⟩ := besides_form x hx
              change AWb _ _ _ _ _ ⟨[.lst (ws₄.map .int), .lst (kp.map .f)], some (.f (.lst [.str s, tt])) :: [none, some (.f (.lst ((spotsL ns t).map fun (i : Nat) => .int (i : Int)))), some (.f (.lst [.str k, .lst ts₀, .lst (besides fac nm)])), some (.int sz), some (.str t), some (.f (.lst (mdl ns ts))), none, none, some (.ref 0)]⟩
              walk_at "awm"
              exact rfl
            · change AW _ _ _ _ _ ⟨[.lst (ws₄.map .int), .lst (kp.map .f)], some (.f x) :: [none, some (.f (.lst ((spotsL ns t).map fun (i : Nat) => .int (i : Int)))), some (.f (.lst [.str k, .lst ts₀, .lst (besides fac nm)])), some (.int sz), some (.str t), some (.f (.lst (mdl ns ts))), none, none, some (.ref 0)]⟩
              walk_at "awm"
              exact rfl
            rw [besides_filter]
            walk_at "awm"
            intro C₃ ok₃ he₃ hs₃ hpl₃
            obtain ⟨Lc, he₃⟩ := he₃
            rw [he] at he₃
            rw [hs] at hs₃
            replace hs₃ : C₃.slots = .l "row" :: [.d "column" (C.L + 9), .d "spots" (C.L + 8), .c "before" (C.L + 7), .c "size" (C.L + 6), .d "name" (C.L + 5), .d "model" (C.L + 4), .d "columns" (C.L + 3), .d "heads" (C.L + 2), .d "well" (C.L + 1)] := hs₃
            rw [hs]
            refine comp_ran (fun j => ts₀.getD (j % sz) .none) (fun j hj => ?_) (ce_rel ?_)
            · change AW _ _ _ _ _ ⟨[.lst (ws₄.map .int), .lst (kp.map .f)], some (.f (.int (j : Int))) :: [none, some (.f (.lst ((spotsL ns t).map fun (i : Nat) => .int (i : Int)))), some (.f (.lst [.str k, .lst ts₀, .lst (besides fac nm)])), some (.int sz), some (.str t), some (.f (.lst (mdl ns ts))), none, none, some (.ref 0)]⟩
              have hs0 : 0 < sz := hf.elim (fun h => h ▸ Nat.lt_of_le_of_lt (Nat.zero_le _) hj) fun h => h.1
              walk_at "awm"
              refine B_mod (i := (j : Int)) (j := (sz : Int)) (Int.ne_of_gt (Int.ofNat_lt.mpr hs0)) ?_
              rw [fmod_n]
              refine G_at (xs := ts₀) (by rw [htl]; exact Nat.mod_lt _ hs0) (le20 htk) ?_
              exact ⟨rfl, rfl⟩
            rw [show (List.range tall).map (fun j => ts₀.getD (j % sz) .none) = fitItems ts₀ tall from by unfold fitItems; rw [htl]]
            walk_at "awm"
            change AX _ _ _ _ _ ⟨[.lst (ws₄.map .int), .lst (kp.map .f)], [some (.f (.lst [.str k, .lst (fitItems ts₀ tall), .lst (facT fac)])), some (.f (.lst ((spotsL ns t).map fun (i : Nat) => .int (i : Int)))), some (.f (.lst [.str k, .lst ts₀, .lst (besides fac nm)])), some (.int sz), some (.str t), some (.f (.lst (mdl ns ts))), none, none, some (.ref 0), none, none, some (.int tall), none, some (.int sort), none, some (.f rh), some (.f (FV.dfr (ns.map .str) cols rk ri)), some (.ref 1), some (.f ix), some (.f (.vec k (.lst its) (At.fv (atOf fac nm)))), none, some (.none), some (.f (.lst (facT fac))), none, none, none, none]⟩
            have hvl := v.len
            have colT : ColT g tall (.vec k (.lst (fitItems its tall)) (At.fv (atOf fac none))) (.lst [.str k, .lst (fitItems ts₀ tall), .lst (facT fac)]) :=
              ⟨⟨_, _, _, rfl, (v.fit hf).len⟩, told_val (nm := none) hg (v.fit hf) ht1k (fun l e => nomatch e), val_fine (v.fit hf)⟩
            have ho := Out.fit (ns := ns) (cols := cols) (t := t) (rk := rk) (ri := ri) (k := k) (its := its) (at' := atOf fac nm) hko v.kN (hvl ▸ hsz1k) hE (by rw [v.len, hri]; exact hf)
            rw [hri, at_kept] at ho
            have hcp := hc.put ht colT
            have fin : ∀ {md : FV}, md = .lst (mdl (putCol ns t) (setCol ns ts t (.lst [.str k, .lst (fitItems ts₀ tall), .lst (facT fac)]))) → Q8 .next ⟨[.lst (ws₄.map .int), .lst (kp.map .f)], [some (.f (.lst [.str k, .lst (fitItems ts₀ tall), .lst (facT fac)])), some (.f (.lst ((spotsL ns t).map fun (i : Nat) => .int (i : Int)))), some (.f (.lst [.str k, .lst ts₀, .lst (besides fac nm)])), some (.int sz), some (.str t), some (.f md), none, none, some (.ref 0), none, none, some (.int tall), none, some (.int sort), none, some (.f rh), some (.f (FV.dfr (ns.map .str) cols rk ri)), some (.ref 1), some (.f ix), some (.f (.vec k (.lst its) (At.fv (atOf fac nm)))), none, some (.none), some (.f (.lst (facT fac))), none, none, none, none]⟩ := by
              rintro md rfl
              exact hQ8 _ _ ⟨rfl, putCol ns t, _, _, _, .none, _, _, ho, hcp, putc_len t, .inl ⟨rfl, rfl⟩, rfl⟩
            refine X_assign ok ?_ (by rw [he]; rfl)
            walk_at "awm"
            intro C₄ ok₄ he₄ hs₄ hpl₄
            obtain ⟨Lc, he₄⟩ := he₄
            rw [he] at he₄
            rw [hs] at hs₄
            replace hs₄ : C₄.slots = .l "at" :: [.c "column" (C.L + 9), .c "spots" (C.L + 8), .d "before" (C.L + 7), .d "size" (C.L + 6), .c "name" (C.L + 5), .c "model" (C.L + 4), .d "columns" (C.L + 3), .d "heads" (C.L + 2), .d "well" (C.L + 1)] := hs₄
            rw [hs, List.length_map, hml]
            by_cases hin : t ∈ ns
            · refine comp_ran (fun j => if j = colIx ns t then .lst [.str t, (.lst [.str k, .lst (fitItems ts₀ tall), .lst (facT fac)])] else (mdl ns ts).getD j .none) (fun j hj => ?_) (ce_rel ?_)
              · change AW _ _ _ _ _ ⟨[.lst (ws₄.map .int), .lst (kp.map .f)], some (.f (.int (j : Int))) :: [some (.f (.lst [.str k, .lst (fitItems ts₀ tall), .lst (facT fac)])), some (.f (.lst ((spotsL ns t).map fun (i : Nat) => .int (i : Int)))), some (.f (.lst [.str k, .lst ts₀, .lst (besides fac nm)])), some (.int sz), some (.str t), some (.f (.lst (mdl ns ts))), none, none, some (.ref 0)]⟩
                walk_at "awm"
                refine R_sliceU ?_
                walk_at "awm"
                refine ⟨(spotsL ns t).map fun (i : Nat) => .int (i : Int), _, rfl, by decide, rfl, hs20, ?_⟩
                rw [show (1 : Int).toNat = 1 from rfl, spots_ints]
                rw [if_pos hin]
                refine C_inI (ns := [(colIx ns t : Int)]) rfl ?_
                rw [any_one]
                walk_at "awm"
                refine ⟨fun q => ?_, fun q => ?_⟩
                · walk_at "awm"
                  exact ⟨by rw [if_pos (beq_iff_eq.mp q)], rfl⟩
                · walk_at "awm"
                  refine G_at (xs := mdl ns ts) (hml ▸ hj) hm20 ?_
                  exact ⟨by rw [if_neg (beq_eq_false_iff_ne.mp q)], rfl⟩
              walk_at "awm"
              refine by_false (beq_eq_false_iff_ne.mpr fun e => ?_) ?_
              · rw [List.length_map, List.length_map] at e
                exact absurd hin (spots_nil.mp (Int.ofNat_eq_zero.mp e))
              refine X_nil (K_next (X_nil (K_next (X_nil ?_))))
              refine fin (congrArg FV.lst ?_)
              rw [mdl_in hin, ← hml]; exact set_all
            · refine comp_ran (fun j => (mdl ns ts).getD j .none) (fun j hj => ?_) (.inr ?_)
              · change AW _ _ _ _ _ ⟨[.lst (ws₄.map .int), .lst (kp.map .f)], some (.f (.int (j : Int))) :: [some (.f (.lst [.str k, .lst (fitItems ts₀ tall), .lst (facT fac)])), some (.f (.lst ((spotsL ns t).map fun (i : Nat) => .int (i : Int)))), some (.f (.lst [.str k, .lst ts₀, .lst (besides fac nm)])), some (.int sz), some (.str t), some (.f (.lst (mdl ns ts))), none, none, some (.ref 0)]⟩
                walk_at "awm"
                refine R_sliceU ?_
                walk_at "awm"
                refine ⟨(spotsL ns t).map fun (i : Nat) => .int (i : Int), _, rfl, by decide, rfl, hs20, ?_⟩
                rw [show (1 : Int).toNat = 1 from rfl, spots_ints]
                rw [if_neg hin]
                refine C_inI (ns := []) rfl ?_
                walk_at "awm"
                refine G_at (xs := mdl ns ts) (hml ▸ hj) hm20 ?_
                exact ⟨rfl, rfl⟩
              rw [show (List.range ns.length).map (fun j => (mdl ns ts).getD j .none) = mdl ns ts from by rw [← hml]; exact get_all]
              walk_at "awm"
              refine by_true (beq_iff_eq.mpr ?_) ?_
              · rw [List.length_map, List.length_map, spots_nil.mpr hin]; rfl
              change AX _ _ _ _ _ ⟨[.lst (ws₄.map .int), .lst (kp.map .f)] ++ [.lst ((mdl ns ts).map .f)], [some (.f (.lst [.str k, .lst (fitItems ts₀ tall), .lst (facT fac)])), some (.f (.lst ((spotsL ns t).map fun (i : Nat) => .int (i : Int)))), some (.f (.lst [.str k, .lst ts₀, .lst (besides fac nm)])), some (.int sz), some (.str t), some (.ref 2), none, none, some (.ref 0), none, none, some (.int tall), none, some (.int sort), none, some (.f rh), some (.f (FV.dfr (ns.map .str) cols rk ri)), some (.ref 1), some (.f ix), some (.f (.vec k (.lst its) (At.fv (atOf fac nm)))), none, some (.none), some (.f (.lst (facT fac))), none, none, none, none]⟩
              repeat' kbo_bools
              refine newList_F2 ?_
              iterate 3 kbo_bools
              change AX _ _ _ _ _ ⟨[.lst (ws₄.map .int), .lst (kp.map .f)] ++ [.lst ((mdl ns ts).map .f ++ [.f (.lst [.str t, (.lst [.str k, .lst (fitItems ts₀ tall), .lst (facT fac)])])])], [some (.f (.lst [.str k, .lst (fitItems ts₀ tall), .lst (facT fac)])), some (.f (.lst ((spotsL ns t).map fun (i : Nat) => .int (i : Int)))), some (.f (.lst [.str k, .lst ts₀, .lst (besides fac nm)])), some (.int sz), some (.str t), some (.ref 2), none, none, some (.ref 0), none, none, some (.int tall), none, some (.int sort), none, some (.f rh), some (.f (FV.dfr (ns.map .str) cols rk ri)), some (.ref 1), some (.f ix), some (.f (.vec k (.lst its) (At.fv (atOf fac nm)))), none, some (.none), some (.f (.lst (facT fac))), none, none, none, none]⟩
              rw [show (mdl ns ts).map AV.f ++ [AV.f (.lst [.str t, (.lst [.str k, .lst (fitItems ts₀ tall), .lst (facT fac)])])] = (mdl ns ts ++ [FV.lst [.str t, (.lst [.str k, .lst (fitItems ts₀ tall), .lst (facT fac)])]]).map AV.f from by rw [List.map_append]; rfl]
              refine X_frz2 (loc' := [some (.f (.lst [.str k, .lst (fitItems ts₀ tall), .lst (facT fac)])), some (.f (.lst ((spotsL ns t).map fun (i : Nat) => .int (i : Int)))), some (.f (.lst [.str k, .lst ts₀, .lst (besides fac nm)])), some (.int sz), some (.str t), some (.f (.lst (mdl ns ts ++ [FV.lst [.str t, (.lst [.str k, .lst (fitItems ts₀ tall), .lst (facT fac)])]]))), none, none, some (.ref 0), none, none, some (.int tall), none, some (.int sort), none, some (.f rh), some (.f (FV.dfr (ns.map .str) cols rk ri)), some (.ref 1), some (.f ix), some (.f (.vec k (.lst its) (At.fv (atOf fac nm)))), none, some (.none), some (.f (.lst (facT fac))), none, none, none, none]) hpl (by simp only [List.map_cons, List.map_nil, frz_l2]; rfl) (X_nil (K_next (X_nil (K_next (X_nil ?_)))))
              refine fin (congrArg FV.lst ?_)
              rw [mdl_out hl hin]
          · have hf := hb2 q
            have hsz1k : sz ≤ 1000 := Nat.le_trans hz (by decide)
            have ls := str_small hsz1k
            have lr := str_small ht1k
            have c4 : (if (sz : Int) = 1 then (Str.ofString " row") else Str.ofString " rows").length ≤ 5 := by split <;> decide
            walk_at "awm"
            have m1 := sadd (Str.ofString "replacement has ") (a := 16) (by decide) ls
            refine L_str (i := (sz : Int)) (log_n hsz1k) (B_adds (add20' m1 (by decide)) ?_)
            refine AWg.cut (Q' := fun b σ' => b = .str (if (sz : Int) = 1 then (Str.ofString " row") else Str.ofString " rows") ∧ σ' = ⟨[.lst (ws₄.map .int), .lst (kp.map .f)], [none, some (.f (.lst ((spotsL ns t).map fun (i : Nat) => .int (i : Int)))), some (.f (.lst [.str k, .lst ts₀, .lst (besides fac nm)])), some (.int sz), some (.str t), some (.f (.lst (mdl ns ts))), none, none, some (.ref 0), none, none, some (.int tall), none, some (.int sort), none, some (.f rh), some (.f (FV.dfr (ns.map .str) cols rk ri)), some (.ref 1), some (.f ix), some (.f (.vec k (.lst its) (At.fv (atOf fac nm)))), none, some (.none), none, none, none, none, none]⟩) (fun Q10 hQ10 => ?_) ?_
            · walk_at "awm"
              refine ⟨fun q => ?_, fun q => ?_⟩
              · walk_at "awm"
                exact hQ10 _ _ ⟨by rw [if_pos (beq_iff_eq.mp q)], rfl⟩
              · walk_at "awm"
                exact hQ10 _ _ ⟨by rw [if_neg (beq_eq_false_iff_ne.mp q)], rfl⟩
            rintro b σ' ⟨rfl, rfl⟩
            have m2 := sadd _ m1 c4
            refine B_adds (add20' m2 (by decide)) ?_
            walk_at "awm"
            have m3 := sadd _ m2 (b := 11) (t := Str.ofString ", data has ") (by decide)
            refine B_adds (add20' m3 (by decide)) ?_
            walk_at "awm"
            refine L_str (i := (tall : Int)) (log_n ht1k) (B_adds (add20' (sadd _ m3 lr) (by decide)) ?_)
            walk_at "awm"
            refine hQ8 _ _ ⟨rfl, ns, cols, ts, .inr (refMsg sz tall), .str (refMsg sz tall), none, none, ?_, hc, Nat.le_succ _, .inr ⟨_, rfl, rfl, rfl, rfl, rfl⟩, rfl⟩
            have ho := Out.bad (ns := ns) (cols := cols) (t := t) (rk := rk) (ri := ri) (k := k) (its := its) (at' := atOf fac nm) hko v.kN (v.len ▸ hsz1k) hE (by rw [v.len, hri]; exact hf)
            rw [v.len, hri] at ho
            exact ho
    · rintro fl σ' ⟨rfl, ns', cols', ts', r, wd, jb, jc, ho, hc', hn', hr', rfl⟩
      walk_at "awm"
      have hl' := hc'.tlen
      have hn1k : ns'.length ≤ 1000 := Nat.le_trans hn' (Nat.le_trans (Nat.succ_le_succ hnz) (by decide))
      have hpk : kp.length ≤ 1000 := Nat.le_trans (Nat.le_add_right _ _) (Nat.le_trans hk2 (by decide))
      refine AX.cut (Q' := fun fl σ' => fl = .next ∧ σ' = ⟨[.lst (ws₄.map .int), .lst (kp.map .f)], [jc, some (.f (.lst ((spotsL ns t).map fun (i : Nat) => .int (i : Int)))), some (.f tv), some (.int sz), some (.str t), some (.f (.lst (mdl ns' ts'))), none, none, some (.ref 0), none, none, some (.int tall), none, some (.int sort), none, some (.f rh), some (.f (FV.dfr (ns'.map .str) cols' rk ri)), some (.ref 1), some (.f ix), some (.f v), none, some (.f wd), jb, some (.f wd), none, none, none]⟩) (fun Q11 hQ11 => ?_) ?_
      · refine X_try (P := fun m σ' => r = .inr m ∧ σ' = ⟨[.lst (ws₄.map .int), .lst (kp.map .f)], [jc, some (.f (.lst ((spotsL ns t).map fun (i : Nat) => .int (i : Int)))), some (.f tv), some (.int sz), some (.str t), some (.f (.lst (mdl ns' ts'))), none, none, some (.ref 0), none, none, some (.int tall), none, some (.int sort), none, some (.f rh), some (.f (FV.dfr (ns.map .str) cols rk ri)), some (.ref 1), some (.f ix), some (.f v), none, some (.f wd), jb, some (.none), none, none, none]⟩) hg ok hm lf.hef lf.hbh hpl (by rw [he]; rfl) (by rw [hs]; repeat (first | exact .head _ | refine .tail _ ?_)) (by rw [hs]; repeat (first | exact .head _ | refine .tail _ ?_)) ?_ ?_
        · walk_at "awl"
          refine setd_spec hg ok (Nat.le_trans hnz (by decide)) (fun m hm => names_ne m (hc.nm m hm)) (names_ne t ht) hc.len (hri ▸ ht1k) (by rw [hri]; exact hc.isc) hix ho (fun m hm => ⟨hm, rfl⟩) fun d hd => ?_
          rcases hr' with ⟨rfl, rfl⟩ | ⟨m, rfl, _⟩
          · cases hd
            walk_at "awl"
            exact hQ11 _ _ ⟨rfl, rfl⟩
          · cases hd
        · rintro m σ' ⟨hm', rfl⟩
          rcases hr' with ⟨rfl, rfl⟩ | ⟨m', rfl, rfl, e1, e2, e3⟩
          · cases hm'
          · cases hm'
            have e1 := e1.symm
            have e2 := e2.symm
            have e3 := e3.symm
            subst e1 e2 e3
            refine ⟨by rw [hs]; exact unb_of rfl, [jc, some (.f (.lst ((spotsL ns t).map fun (i : Nat) => .int (i : Int)))), some (.f tv), some (.int sz), some (.str t), some (.f (.lst (mdl ns ts))), none, none, some (.ref 0), none, none, some (.int tall), none, some (.int sort), none, some (.f rh), some (.f (FV.dfr (ns.map .str) cols rk ri)), some (.ref 1), some (.f ix), some (.f v), none, some (.str m), jb, some (.str m), none, none, none], by rw [hs]; k_offL, by rw [hs]; exact unb_of rfl, hQ11 _ _ ⟨rfl, rfl⟩⟩
      · rintro fl σ' ⟨rfl, rfl⟩
        have hne : ∀ {Q' : AV → St → Prop} {σ' : St}, Q' (.bool false) σ' → AWh g C XC.no (VR g.prog g.w) [.f wd, .f wd] (val2 (compareOp .NotEq)) Q' σ' := by
          intro Q' σ' h
          rcases hr' with ⟨_, rfl⟩ | ⟨m, _, rfl, _⟩
          · exact C_nenn h
          · exact C_nes (by rw [bne_self_eq_false]; exact h)
        have tdf : ToldC g 4 (FV.dfr (ns'.map .str) cols' rk ri) (sheetF ns' ts' rh) := told_df hg (m := 2) (hc'.len ▸ hn1k) hn1k hc'.told hrt
        have sf := sheet_fine (fun m hm => names_ok m (hc'.nm m hm)) hc'.fine hrf
        walk_at "awm"
        refine hne ?_
        walk_at "awm"
        refine tdf _ _ _ _ (ok.le (Nat.le_add_left _ _)) ?_
        walk_at "awm"
        refine sheet_spec hg ok hl' hn1k ?_
        refine C_neD ok (Nat.le_add_left _ _) sf.1 sf.2 ?_
        walk_at "awl"
        refine sheet_spec hg ok hl' hn1k ?_
        walk_at "awl"
        change Q .next ⟨[.lst (ws₄.map .int), .lst (kp.map .f ++ [.f (.lst [FV.dfr (ns'.map .str) cols' rk ri, sheetF ns' ts' rh])] ++ [.f (.lst [v, tv])])], [jc, some (.f (.lst ((spotsL ns t).map fun (i : Nat) => .int (i : Int)))), some (.f tv), some (.int sz), some (.str t), some (.f (.lst (mdl ns' ts'))), none, none, some (.ref 0), none, none, some (.int tall), none, some (.int sort), none, some (.f rh), some (.f (FV.dfr (ns'.map .str) cols' rk ri)), some (.ref 1), some (.f ix), some (.f v), none, some (.f wd), jb, some (.f wd), none, none, none]⟩
        rw [show kp.map AV.f ++ [AV.f (FV.lst [FV.dfr (ns'.map .str) cols' rk ri, sheetF ns' ts' rh])] ++ [AV.f (FV.lst [v, tv])] = (kp ++ [FV.lst [FV.dfr (ns'.map .str) cols' rk ri, sheetF ns' ts' rh], FV.lst [v, tv]]).map AV.f from by rw [List.map_append, List.append_assoc]; rfl]
        refine hQ _ ⟨ws₄, kp ++ [.lst [FV.dfr (ns'.map .str) cols' rk ri, sheetF ns' ts' rh], .lst [v, tv]], ns', cols', ts', _, rfl, (by repeat (first | exact Forg.nil | apply Forg.no | apply Forg.same)), hw₄, hc', Nat.le_trans (Nat.add_le_add_right hn' k) (by rw [Nat.add_assoc, Nat.add_comm 1 k]; exact hk1), ?_, fun p hp => ?_⟩
        · rw [List.length_append]; show kp.length + 2 + 2 * k ≤ 100; rw [Nat.add_assoc, Nat.add_comm 2]; exact hk2
        · rcases List.mem_append.mp hp with q | q
          · exact hkp p q
          · rcases List.mem_cons.mp q with rfl | q
            · exact ⟨_, _, rfl, tdf, sf⟩
            · rw [List.mem_singleton.mp q]
              exact ⟨_, _, rfl, (vs.told hg).le (by decide), vs.fine⟩
end

section
variable {g : Gl} {C : Cx} {X : XC} {σ : St} {n : Nat}
/-- script[:40]: the list that the caller handed in -/
theorem R_sliceK {value e : Expr} {p pos : Pos} {Q : AV → St → Prop} {a : Addr} {vs : List Value} {is : List FV} (hb : ∀ h, C.h₀.StaysIn h → h.IsList a vs.toArray) (hi : ∀ Z, VFs g.prog g.w Z is vs) (hz : is.length ≤ 2 ^ 20)
    (h : AW g C X (eval value C.env) (fun o σ₁ => o = .cst (.ref a) ∧ AW g C X (eval e C.env) (fun u σ₂ => ∃ (k : Int), u = .int k ∧ 0 ≤ k ∧ Q (.f (.lst (is.take k.toNat))) σ₂) σ₁) σ) :
    AW g C X (eval (.Subscript value (.Slice none (some e) none p) pos) C.env) Q σ := by
  intro Y Z W hh tk rr Qc Ec q e'
  refine Subscript_ (h Y Z W hh tk rr _ Ec (fun b σ₁ v₁ Z₁ W₁ h₁ t₁ p₁ r₁ f₁ w₁ x₁ => ?_) e')
  obtain ⟨rfl, p₁⟩ := p₁
  cases vr_cst x₁
  refine wpAny_Slice (wpAny_of_eq (evalPart_none _) ?_)
  rw [evalPart_some]
  refine p₁ Y Z₁ W₁ h₁ t₁ r₁ _ Ec (fun b σ₂ v₂ Z₂ W₂ h₂ t₂ p₂ r₂ f₂ w₂ x₂ => ?_) fun e'' s' z => e' e'' s' (X.mono f₁ z)
  obtain ⟨k, rfl, hk0, hq⟩ := p₂
  obtain ⟨t, rfl⟩ := vr_int x₂
  rw [evalPart_none]
  refine wpAny_pure ?_
  obtain ⟨mF, kd, Cs, r₂⟩ := r₂
  have hlen := (hi ⟨[], []⟩).len
  have kk : ∀ b o, h₂.get? b = some o → (h₂.push { cls := .type "slice", data := .fields #[.none, .int k t, .none] }).get? b = some o := push_keeps h₂ _
  have hL : (h₂.push { cls := .type "slice", data := .fields #[.none, .int k t, .none] }).IsList a vs.toArray := hb _ fun b o q => kk b o (r₂.fr.keep b o q)
  refine tail_any (T := "list") hL.typeIs slot_list_getitem.lookup (wpAny_getItem_list_slice (s := g.mk' _ t₂) hL (Heap.IsSliceOf.new h₂ .none (.int k t) .none) .none (.int k t) .none (by simp) ?_ (by rw [List.size_toArray, ← hlen, sizeLine_eq]; omega)) rfl
  have hke : ∀ (k : Int), 0 ≤ k → slicePick vs.toArray none (some k) none = (vs.take k.toNat).toArray := fun k hk => by
    have := slicePick_take vs.toArray k.toNat
    rw [Int.toNat_of_nonneg hk] at this
    exact this
  rw [hke k hk0]
  have r₃ := r₂.keeps kk
  obtain ⟨r₄, f₄⟩ := r₃.newZ (push_keeps _ (listOf (vs.take k.toNat).toArray 0)) (push_new _) (Heap.get?_push_size _ rfl)
  exact q _ σ₂ _ _ W₂ _ t₂ hq ⟨_, _, _, r₄⟩ ((f₁.trans f₂).trans f₄) (w₁.trans w₂) (.f (.lst (.head _) ⟨0, rfl⟩ ((hi _).take _)))
theorem fcol {sz : Nat} (hg : HK g) {k : Str} {its ts : List FV} {fac : Bool} (v : Val g sz k its ts) (hz : sz ≤ 1000) : ColT g sz (.vec k (.lst its) (At.fv (atOf fac none))) (.lst [.str k, .lst ts, .lst (facT fac)]) :=
  ⟨⟨_, _, _, rfl, v.len⟩, told_val (nm := none) hg v hz (fun l e => by cases e), val_fine v⟩
theorem toF_fresh0 {k : Str} {its : List FV} : toF 9 2 [.ins 99 vkeys [.str k, .f (.lst its), .none, .bool false, .bool false]] (.ref 2) = some (.vec k (.lst its) (At.fv (atOf false none))) := rfl
theorem toF_fresh4 {its : List FV} : toF 9 2 [.dct ["levels", "class"] [.f lvA, .f lvB], .ins 99 vkeys [.str "integer", .f (.lst its), .ref 2, .bool false, .bool false]] (.ref 3) = some (.vec "integer" (.lst its) (At.fv (atOf true none))) := rfl
theorem frz_l1' {xs : List FV} : frzA 1 [.lst (xs.map .f)] (some (.ref 1)) = some (.f (.lst xs)) := by
  have h0 : toF 9 1 [HO.lst (xs.map .f)] (.ref 1) = some (.lst xs) := by
    show (match allSome ((xs.map AV.f).map (toF 8 1 _)) with | some l => some (FV.lst l) | none => none) = _
    rw [allSome_f]
  show (match toF 9 1 [HO.lst (xs.map .f)] (.ref 1) with | some v => some (AV.f v) | none => none) = _
  rw [h0]
theorem rh_fine : ∀ tall : Fin 4, ((FV.lst [.str "integer", .lst (rangeL 1 (((tall : Nat) : Int) + 1)), .lst []]).good = true ∧ (FV.lst [.str "integer", .lst (rangeL 1 (((tall : Nat) : Int) + 1)), .lst []]).dat.depth ≤ 7) ∧
    ((FV.lst [.str "character", .lst ([.str "2", .str "", .str "b"].take (tall : Nat)), .lst []]).good = true ∧ (FV.lst [.str "character", .lst ([.str "2", .str "", .str "b"].take (tall : Nat)), .lst []]).dat.depth ≤ 7) := by decide +kernel
theorem strs_get {ns : List Str} {j : Nat} (h : j < ns.length) : (ns.map FV.str).getD j .none = .str (ns.getD j "") := by
  rw [List.getD_eq_getElem?_getD, List.getD_eq_getElem?_getD, List.getElem?_map, List.getElem?_eq_getElem h]; rfl
theorem law_ret (hg : HK g) (ok : Ok g C (n + 8)) {f : Addr} {cdv : Value} {qual : Str} (lf : LF g C f cdv qual) {a : Addr} {vs : List Value} {is : List Int} (hb : ∀ h, C.h₀.StaysIn h → h.IsList a vs.toArray) (hi : ∀ Z, VFs g.prog g.w Z (is.map .int) vs) (hz : is.length ≤ 1000) :
    AX g C XC.no (execs lawD.body C.env) (fun fl _ => fl = .ret (.f (.bool true))) ⟨[], [none, none, none, none, none, none, none, none, none, some (.cst (.ref a)), none, none, none, none, none, none, none, none, none, none, none, none, none, none, none, none, none]⟩ := by
  conv in lawD.body => whnf
  have he := lf.he
  conv at he => rhs; arg 2; whnf
  have hs := lf.hs
  have hm := lf.hm
  have hpl := lf.hpl
  walk_at "awm"
  refine X_assign ok ?_ (by rw [he]; rfl)
  walk_at "awm"
  refine R_sliceK (is := is.map .int) hb hi (le20m hz) ?_
  walk_at "awm"
  refine ⟨by decide, itr_list ok (Nat.le_trans (by rw [List.length_take]; exact Nat.min_le_right _ _) (le20m hz)) ?_⟩
  intro C₂ ok₂ he₂ hs₂ hpl₂
  obtain ⟨Lc, he₂⟩ := he₂
  rw [he] at he₂
  rw [hs] at hs₂
  replace hs₂ : C₂.slots = .l "cell" :: [.d "column" (C.L + 9), .d "spots" (C.L + 8), .d "before" (C.L + 7), .d "size" (C.L + 6), .d "name" (C.L + 5), .d "model" (C.L + 4), .d "columns" (C.L + 3), .d "heads" (C.L + 2), .d "well" (C.L + 1)] := hs₂
  rw [hs]
  obtain ⟨ws, hws, hwl⟩ : ∃ ws : List Int, ((is.take 40).map fun i : Int => FV.int (if i < 0 then -i else i)).map AV.f = ws.map .int ∧ ws.length ≤ 40 :=
    ⟨(is.take 40).map fun i : Int => if i < 0 then -i else i, by rw [List.map_map, List.map_map]; rfl, by rw [List.length_map, List.length_take]; exact Nat.min_le_left _ _⟩
  refine comp_rel (ys := (is.take 40).map fun i : Int => FV.int (if i < 0 then -i else i)) ?_ (.inr ?_)
  · rw [← List.map_take]
    refine All2.left (All2.right fun i hi => ?_)
    change AW _ _ _ _ _ ⟨[], some (.f (.int i)) :: [none, none, none, none, none, none, none, none, none]⟩
    walk_at "awm"
    exact rfl
  change Bind C ⟨[.lst (((is.take 40).map fun i : Int => FV.int (if i < 0 then -i else i)).map AV.f)], [none, none, none, none, none, none, none, none, none, some (.cst (.ref a)), none, none, none, none, none, none, none, none, none, none, none, none, none, none, none, none, none]⟩ "well" (.ref 0) _
  rw [hws]
  iterate 2 kbo_bools
  refine X_forget (loc' := [none, none, none, none, none, none, none, none, some (.ref 0), none, none, none, none, none, none, none, none, none, none, none, none, none, none, none, none, none, none]) (by repeat (first | exact Forg.nil | apply Forg.no | apply Forg.same)) ?_
  -- wide, tall
  walk_at "awm"
  refine dip_n hg ok (L := 4) (ws := ws) rfl (by decide) (by decide) (by decide) hwl fun d₁ ws₁ h₁ hw₁ => ?_
  walk_at "awm"
  refine B_mod (i := (d₁ : Int) + 2) (j := 4) (by decide) ?_
  obtain ⟨wide, hwide, hw4⟩ : ∃ wide : Nat, ((d₁ : Int) + 2).fmod 4 = (wide : Int) ∧ wide < 4 := ⟨(d₁ + 2) % 4, fmod_n, Nat.mod_lt _ (by decide)⟩
  rw [hwide]
  walk_at "awm"
  refine dip_n hg ok (L := 4) (ws := ws₁) rfl (by decide) (by decide) (by decide) hw₁ fun d₂ ws₂ h₂ hw₂ => ?_
  walk_at "awm"
  refine B_mod (i := (d₂ : Int) + 2) (j := 4) (by decide) ?_
  obtain ⟨tall, htall, ht4⟩ : ∃ tall : Nat, ((d₂ : Int) + 2).fmod 4 = (tall : Int) ∧ tall < 4 := ⟨(d₂ + 2) % 4, fmod_n, Nat.mod_lt _ (by decide)⟩
  rw [htall]
  have hw1k : wide ≤ 1000 := Nat.le_trans (Nat.le_of_lt hw4) (by decide)
  have ht1k : tall ≤ 1000 := Nat.le_trans (Nat.le_of_lt ht4) (by decide)
  change Bind C ⟨[.lst (ws₂.map .int)], [none, none, none, none, none, none, none, none, some (.ref 0), none, some (.int wide), none, none, none, none, none, none, none, none, none, none, none, none, none, none, none, none]⟩ "tall" (.int tall) _
  -- heads
  iterate 3 kbo_bools
  refine X_assign ok ?_ (by rw [he]; rfl)
  walk_at "awm"
  intro C₃ ok₃ he₃ hs₃ hpl₃
  obtain ⟨Lc, he₃⟩ := he₃
  rw [he] at he₃
  rw [hs] at hs₃
  replace hs₃ : C₃.slots = .l "at" :: [.d "column" (C.L + 9), .d "spots" (C.L + 8), .d "before" (C.L + 7), .d "size" (C.L + 6), .d "name" (C.L + 5), .d "model" (C.L + 4), .d "columns" (C.L + 3), .d "heads" (C.L + 2), .c "well" (C.L + 1)] := hs₃
  rw [hs]
  refine comp_inv (fun xs acc H => ∃ (ns : List Str) (ws' : List Int), acc = (ns.map FV.str).map .f ∧ (∀ m ∈ ns, m ∈ names4) ∧ ns.length ≤ wide ∧ xs = (rangeL 0 (wide : Int)).drop ns.length ∧ H = [.lst (ws'.map .int)] ∧ ws'.length ≤ 40) ?_ ?_ _ _ _ ⟨[], ws₂, rfl, (fun _ h => nomatch h), Nat.zero_le _, rfl, rfl, hw₂⟩
  · rintro acc H ⟨ns, ws₃, rfl, hns, hnl, hdr, rfl, hw₃⟩
    have hnw : ns.length = wide := Nat.le_antisymm hnl (range_nil hdr)
    have hnk : ns.length ≤ 1000 := hnw ▸ hw1k
    refine .inl ⟨_, rfl, ?_⟩
    change Bind C ⟨[.lst (ws₃.map .int)], [none, none, none, none, none, none, none, none, some (.ref 0), none, some (.int wide), some (.int tall), none, none, none, none, none, none, none, none, none, none, none, none, none, none, none]⟩ "heads" _ _
    -- columns
    iterate 4 kbo_bools
    repeat' kbo_bools
    refine newList_M (xs := []) (by decide) ?_
    change Bind C ⟨[.lst (ws₃.map .int), .lst (([] : List FV).map .f)], [none, none, none, none, none, none, none, some (.f (.lst (ns.map .str))), some (.ref 0), none, some (.int wide), some (.int tall), none, none, none, none, none, none, none, none, none, none, none, none, none, none, none]⟩ "columns" (.ref 1) _
    walk_at "awm"
    refine for_inv (fun xs σ' => ∃ (ws : List Int) (cols ts : List FV) (jus jsort : Option AV), ws.length ≤ 40 ∧ All2 (ColT g tall) cols ts ∧ cols.length + xs.length = wide ∧
      σ' = ⟨[.lst (ws.map .int), .lst (cols.map .f)], [none, none, none, none, none, none, some (.ref 1), some (.f (.lst (ns.map .str))), some (.ref 0), none, some (.int wide), some (.int tall), jus, jsort, none, none, none, none, none, none, none, none, none, none, none, none, none]⟩) ?_ ?_ _ _ ⟨ws₃, [], [], none, none, hw₃, .nil, by rw [List.length_nil, Nat.zero_add]; exact range_zlen, rfl⟩
    · rintro σ' ⟨ws₄, cols, ts, jus, jsort, hw₄, hall, hcl, rfl⟩
      rw [List.length_nil, Nat.add_zero] at hcl
      have hctl := hall.len
      refine X_nil (K_next ?_)
      refine X_forget (loc' := [none, none, none, none, none, none, some (.ref 1), some (.f (.lst (ns.map .str))), some (.ref 0), none, some (.int wide), some (.int tall), none, none, none, none, none, none, none, none, none, none, none, none, none, none, none]) (by repeat (first | exact Forg.nil | apply Forg.no | apply Forg.same)) ?_
      change AX _ _ _ _ _ ⟨[.lst (ws₄.map .int)] ++ [.lst (cols.map .f)], _⟩
      refine X_frz1 (loc' := [none, none, none, none, none, none, some (.f (.lst cols)), some (.f (.lst (ns.map .str))), some (.ref 0), none, some (.int wide), some (.int tall), none, none, none, none, none, none, none, none, none, none, none, none, none, none, none]) hpl (by simp only [List.map_cons, List.map_nil, frz_l1']; rfl) ?_
      -- row_heads
      walk_at "awm"
      refine vec_F2 (it := .lst (rangeL 1 ((tall : Int) + 1))) hg ok ?_
      have hrl : (rangeL 1 ((tall : Int) + 1)).length = tall := range_1len
      iterate 3 kbo_bools
      refine AX.cut (Q' := fun fl σ' => fl = .next ∧ ∃ (ws₅ : List Int) (rk : Str) (ri : List FV), ws₅.length ≤ 40 ∧ ri.length = tall ∧ (tall = 0 → rk = "integer") ∧ ToldC g 3 (.vec rk (.lst ri) .none) (.lst [.str rk, .lst ri, .lst []]) ∧ fine (.lst [.str rk, .lst ri, .lst []]) ∧
        σ' = ⟨[.lst (ws₅.map .int)], [none, none, none, none, none, none, some (.f (.lst cols)), some (.f (.lst (ns.map .str))), some (.ref 0), none, some (.int wide), some (.int tall), none, none, some (.f (.vec rk (.lst ri) .none)), none, none, none, none, none, none, none, none, none, none, none, none]⟩) (fun Q1 hQ1 => ?_) ?_
      · skip
        have pI : ∀ {ws₅ : List Int}, ws₅.length ≤ 40 → Q1 .next ⟨[.lst (ws₅.map .int)], [none, none, none, none, none, none, some (.f (.lst cols)), some (.f (.lst (ns.map .str))), some (.ref 0), none, some (.int wide), some (.int tall), none, none, some (.f (.vec "integer" (.lst (rangeL 1 ((tall : Int) + 1))) .none)), none, none, none, none, none, none, none, none, none, none, none, none]⟩ := fun hw => hQ1 _ _ ⟨rfl, _, "integer", _, hw, hrl, fun _ => rfl, told_vec hg (by decide) (Nat.le_trans (Nat.le_of_eq hrl) ht1k) (.inl ⟨by decide, rfl⟩) (.inl ⟨rfl, rfl⟩), (rh_fine ⟨tall, ht4⟩).1, rfl⟩
        walk_at "awm"
        refine ⟨fun q => ?_, fun q => ?_⟩
        · have h0 := of_decide_eq_true q
          walk_at "awm"
          refine dip_n hg ok (L := 2) (ws := ws₄) rfl (by decide) (by decide) (by decide) hw₄ fun d₅ ws₅ h₅ hw₅ => ?_
          walk_at "awm"
          refine ⟨fun q => ?_, fun q => ?_⟩
          · walk_at "awm"
            refine R_sliceU ?_
            walk_at "awm"
            refine ⟨[.str "2", .str "", .str "b"], _, rfl, Int.natCast_nonneg _, rfl, by decide, ?_⟩
            walk_at "awm"
            refine vec_F2 hg ok ?_
            walk_at "awm"
            have hm3 : ([.str "2", .str "", .str "b"].take tall : List FV).length = tall := by rw [List.length_take]; exact Nat.min_eq_left (Nat.le_of_lt_succ ht4)
            refine hQ1 _ _ ⟨rfl, ws₅, "character", _, hw₅, hm3, fun e => absurd e (Nat.ne_of_gt (Int.ofNat_lt.mp h0)), told_vec hg (by decide) (Nat.le_trans (Nat.le_of_eq hm3) ht1k) (.inl ⟨by decide, rfl⟩) (.inl ⟨rfl, rfl⟩), (rh_fine ⟨tall, ht4⟩).2, rfl⟩
          · walk_at "awm"
            exact pI hw₅
        · walk_at "awm"
          exact pI hw₄
      · rintro fl σ' ⟨rfl, ws₅, rk, ri, hw₅, hri, hrk, hrt, hrf, rfl⟩
        walk_at "awm"
        refine X_assign ok ?_ (by rw [he]; rfl)
        walk_at "awm"
        intro C₅ ok₅ he₅ hs₅ hpl₅
        obtain ⟨Lc, he₅⟩ := he₅
        rw [he] at he₅
        rw [hs] at hs₅
        replace hs₅ : C₅.slots = .l "at" :: [.d "column" (C.L + 9), .d "spots" (C.L + 8), .d "before" (C.L + 7), .d "size" (C.L + 6), .d "name" (C.L + 5), .d "model" (C.L + 4), .c "columns" (C.L + 3), .c "heads" (C.L + 2), .d "well" (C.L + 1)] := hs₅
        rw [hs]
        have hlc : ns.length = cols.length := hnw.trans hcl.symm
        have hlt : ns.length = ts.length := hlc.trans hctl
        have hck : cols.length ≤ 1000 := hcl ▸ hw1k
        have hml : (mdl ns ts).length = wide := by rw [mdl_len hlt]; exact hnw
        refine comp_ran (fun j => (mdl ns ts).getD j .none) (fun j hj => ?_) (ce_rel ?_)
        · change AW _ _ _ _ _ ⟨[.lst (ws₅.map .int)], some (.f (.int (j : Int))) :: [none, none, none, none, none, none, some (.f (.lst cols)), some (.f (.lst (ns.map .str))), some (.ref 0)]⟩
          walk_at "awm"
          have hjn : j < ns.length := hnw ▸ hj
          refine G_at (xs := ns.map .str) (by rw [List.length_map]; exact hjn) (le20m hnk) ?_
          rw [strs_get hjn]
          walk_at "awm"
          refine G_at (xs := cols) (hlc ▸ hjn) (le20 hck) ?_
          walk_at "awm"
          refine ((hall.getD (a := .none) (b := .none) (i := j) (hlc ▸ hjn)).told) _ _ _ _ (ok₅.le (Nat.le_add_left _ _)) ?_
          walk_at "awm"
          rw [mdl_get hlt hjn]
          exact ⟨rfl, rfl⟩
        rw [show (List.range wide).map (fun j => (mdl ns ts).getD j .none) = mdl ns ts from by rw [← hml]; exact get_all]
        walk_at "awm"
        refine hrt _ _ _ _ (ok.le (Nat.le_add_left _ _)) ?_
        walk_at "awm"
        refine vec_M2 hg ok ?_
        iterate 3 kbo_bools
        refine AX.cut (Q' := fun fl σ' => fl = .next ∧ σ' = ⟨[.lst (ws₅.map .int)] ++ [.ins 99 vkeys [.str "list", .f (.lst cols), .ref 2, .bool false, .bool false], .dct ["names", "class", "row.names"] [.f (.vec "character" (.lst (ns.map .str)) .none), .f (.vec "character" (.lst [.str "data.frame"]) .none), .f (.vec rk (.lst ri) .none)]], [none, none, none, none, none, some (.f (.lst (mdl ns ts))), some (.f (.lst cols)), some (.f (.lst (ns.map .str))), some (.ref 0), none, some (.int wide), some (.int tall), none, none, some (.f (.vec rk (.lst ri) .none)), some (.f (.lst [.str rk, .lst ri, .lst []])), some (.ref 1), none, none, none, none, none, none, none, none, none, none]⟩) (fun Q2 hQ2 => ?_) ?_
        · walk_at "awm"
          refine vec_F2 (k := "character") (it := .lst (ns.map .str)) hg ok ?_
          walk_at "awm"
          refine vec_F2 (k := "character") (it := .lst [.str "data.frame"]) hg ok ?_
          walk_at "awm"
          exact hQ2 _ _ ⟨rfl, rfl⟩
        rintro fl σ' ⟨rfl, rfl⟩
        refine K_next ?_
        refine X_frz1 (loc' := [none, none, none, none, none, some (.f (.lst (mdl ns ts))), some (.f (.lst cols)), some (.f (.lst (ns.map .str))), some (.ref 0), none, some (.int wide), some (.int tall), none, none, some (.f (.vec rk (.lst ri) .none)), some (.f (.lst [.str rk, .lst ri, .lst []])), some (.f (FV.dfr (ns.map .str) cols rk ri)), none, none, none, none, none, none, none, none, none, none]) hpl rfl ?_
        have hc : Cols g tall ns cols ts := ⟨hlc, hns, hall⟩
        have tdf : ToldC g 4 (FV.dfr (ns.map .str) cols rk ri) (sheetF ns ts (.lst [.str rk, .lst ri, .lst []])) := told_df hg (m := 2) hck hnk hc.told hrt
        have sf := sheet_fine (fun m hm => names_ok m (hns m hm)) hc.fine hrf
        repeat' kbo_bools
        refine tdf _ _ _ _ (ok.le (Nat.le_add_left _ _)) ?_
        repeat' kbo_bools
        refine newList_F2 ?_
        repeat' kbo_bools
        refine newList_M (xs := [.f (.lst [FV.dfr (ns.map .str) cols rk ri, sheetF ns ts (.lst [.str rk, .lst ri, .lst []])])]) (by simp) ?_
        change Bind C ⟨[.lst (ws₅.map .int), .lst ([.lst [FV.dfr (ns.map .str) cols rk ri, sheetF ns ts (.lst [.str rk, .lst ri, .lst []])]].map .f)], [none, none, none, none, none, some (.f (.lst (mdl ns ts))), some (.f (.lst cols)), some (.f (.lst (ns.map .str))), some (.ref 0), none, some (.int wide), some (.int tall), none, none, some (.f (.vec rk (.lst ri) .none)), some (.f (.lst [.str rk, .lst ri, .lst []])), some (.f (FV.dfr (ns.map .str) cols rk ri)), none, none, none, none, none, none, none, none, none, none]⟩ "kept" (.ref 1) _
        walk_at "awm"
        refine dip_n hg ok (L := 5) (ws := ws₅) rfl (by decide) (by decide) (by decide) hw₅ fun d₆ ws₆ h₆ hw₆ => ?_
        walk_at "awm"
        refine B_mod (i := (d₆ : Int) + 2) (j := 5) (by decide) ?_
        obtain ⟨rnd, hrnd, hr5⟩ : ∃ rnd : Nat, ((d₆ : Int) + 2).fmod 5 = (rnd : Int) ∧ rnd < 5 := ⟨(d₆ + 2) % 5, fmod_n, Nat.mod_lt _ (by decide)⟩
        rw [hrnd]
        have hr1k : rnd ≤ 1000 := Nat.le_trans (Nat.le_of_lt hr5) (by decide)
        walk_at "awm"
        have hkp : KeptOk g (.lst [FV.dfr (ns.map .str) cols rk ri, sheetF ns ts (.lst [.str rk, .lst ri, .lst []])]) := ⟨_, _, rfl, tdf, sf⟩
        refine for_inv (fun xs σ' => LInv g tall rk ri (.lst [.str rk, .lst ri, .lst []]) xs.length σ') ?_ ?_ _ _ ⟨ws₆, [.lst [FV.dfr (ns.map .str) cols rk ri, sheetF ns ts (.lst [.str rk, .lst ri, .lst []])]], ns, cols, ts, _, rfl, (by repeat (first | exact Forg.nil | apply Forg.no | apply Forg.same)), Nat.le_trans hw₆ (by decide), hc, ?_, ?_, fun p hp => by rw [List.mem_singleton.mp hp]; exact hkp⟩
        · rintro σ' ⟨ws, kp, ns, cols, ts, loc, rfl, hF, hw, hc, hk1, hk2, hkp⟩
          refine X_nil (K_next (X_forget hF ?_))
          refine X_forget (loc' := [none, none, none, none, none, none, none, none, some (.ref 0), none, none, none, none, none, none, none, none, some (.ref 1), none, none, none, none, none, none, none, none, none]) (by repeat (first | exact Forg.nil | apply Forg.no | apply Forg.same)) ?_
          change AX _ _ _ _ _ ⟨[.lst (ws.map .int)] ++ [.lst (kp.map .f)], _⟩
          refine X_frz1 (loc' := [none, none, none, none, none, none, none, none, some (.ref 0), none, none, none, none, none, none, none, none, some (.f (.lst kp)), none, none, none, none, none, none, none, none, none]) hpl (by simp only [List.map_cons, List.map_nil, frz_l1']; rfl) ?_
          walk_at "awm"
          refine for_inv (fun xs σ' => (∀ p ∈ xs, KeptOk g p) ∧ ∃ (jone jshown : Option AV), σ' = ⟨[.lst (ws.map .int)], [none, none, none, none, none, none, none, none, some (.ref 0), none, none, none, none, none, none, none, none, some (.f (.lst kp)), none, none, none, none, none, none, none, jone, jshown]⟩) ?_ ?_ _ _ ⟨hkp, none, none, rfl⟩
          · rintro σ' ⟨_, j1, j2, rfl⟩
            walk_at "awl"
            exact rfl
          · rintro x xs σ' ⟨hk, j1, j2, rfl⟩
            obtain ⟨v, s, rfl, hv, hvg, hvd⟩ := hk x (.head _)
            refine AS_two ok (.inr rfl) ?_
            walk_at "awm"
            refine hv _ _ _ _ (ok.le (Nat.le_add_left _ _)) ?_
            walk_at "awm"
            refine C_neD ok (Nat.le_add_left _ _) hvg hvd ?_
            walk_at "awm"
            exact ⟨fun p hp => hk p (.tail _ hp), _, _, rfl⟩
        · rintro x xs σ' ⟨ws, kp, ns, cols, ts, loc, rfl, hF, hw, hc, hk1, hk2, hkp⟩
          refine H_forget hF ?_
          rw [List.length_cons] at hk1 hk2
          iterate 2 kbo_bools
          refine X_forget (loc' := [none, none, none, none, none, some (.f (.lst (mdl ns ts))), none, none, some (.ref 0), none, none, some (.int tall), none, none, none, some (.f (.lst [.str rk, .lst ri, .lst []])), some (.f (FV.dfr (ns.map .str) cols rk ri)), some (.ref 1), none, none, none, none, none, none, none, none, none]) (by repeat (first | exact Forg.nil | apply Forg.no | apply Forg.same)) ?_
          exact loop2_step hg ok lf hw hc hri hrk (Nat.le_of_lt_succ ht4) hrt hrf hk1 hk2 hkp fun σ' h => h
        · rw [range_slen]; exact Nat.le_trans (Nat.add_le_add (Nat.le_trans (Nat.le_of_eq hnw) (Nat.le_of_lt hw4)) (Nat.add_le_add_left (Nat.le_of_lt hr5) 1)) (by decide)
        · rw [range_slen]; exact Nat.le_trans (Nat.add_le_add_left (Nat.mul_le_mul_left 2 (Nat.add_le_add_left (Nat.le_of_lt hr5) 1)) 1) (by decide)
    · rintro x xs σ' ⟨ws₄, cols, ts, jus, jsort, hw₄, hall, hcl, rfl⟩
      rw [List.length_cons] at hcl
      walk_at "awm"
      refine dip_n hg ok (L := 6) (ws := ws₄) rfl (by decide) (by decide) (by decide) hw₄ fun sort ws₅ h₅ hw₅ => ?_
      walk_at "awm"
      refine AWh.frzN ?_
      refine fresh_spec hg ok (ws := ws₅) rfl (by decide) hw₅ (Nat.le_trans (Nat.le_of_lt ht4) (by decide)) h₅ (fun ws₆ k its ts' hw₆ v hk5 hk4 => ⟨[.lst (ws₆.map .int), .lst (cols.map .f)], _, _, rfl, rfl, ?_, rfl, toF_fresh0, ?_⟩) fun ws₆ its hw₆ v hs4 => ⟨[.lst (ws₆.map .int), .lst (cols.map .f)], _, _, rfl, rfl, ?_, rfl, toF_fresh4, ?_⟩
      · intro o ho
        rcases List.mem_cons.mp ho with rfl | ho
        · exact nr_i
        · rw [List.mem_singleton.mp ho]; exact nr_f
      · walk_at "awm"
        exact ⟨ws₆, cols ++ [.vec k (.lst its) (At.fv (atOf false none))], ts ++ [.lst [.str k, .lst ts', .lst (facT false)]], _, _, hw₆, (All2.cons (fcol hg v ht1k) .nil).app hall, by rw [List.length_append]; show cols.length + 1 + _ = _; rw [Nat.add_assoc, Nat.add_comm 1]; exact hcl, by rw [List.map_append]; rfl⟩
      · intro o ho
        rcases List.mem_cons.mp ho with rfl | ho
        · exact nr_i
        · rw [List.mem_singleton.mp ho]; exact nr_f
      · walk_at "awm"
        exact ⟨ws₆, cols ++ [.vec "integer" (.lst its) (At.fv (atOf true none))], ts ++ [.lst [.str "integer", .lst its, .lst (facT true)]], _, _, hw₆, (All2.cons (fcol hg v ht1k) .nil).app hall, by rw [List.length_append]; show cols.length + 1 + _ = _; rw [Nat.add_assoc, Nat.add_comm 1]; exact hcl, by rw [List.map_append]; rfl⟩
  · rintro x xs acc H ⟨ns, ws', rfl, hns, hnl, hdr, rfl, hw'⟩
    obtain ⟨hi1, rfl, hxs⟩ := range_head hdr
    change AW _ _ _ _ _ ⟨[.lst (ws'.map .int)], some (.f (.int (ns.length : Int))) :: [none, none, none, none, none, none, none, none, some (.ref 0)]⟩
    walk_at "awm"
    refine dip_n hg ok₃ (L := 2) (ws := ws') rfl (by decide) (by decide) (by decide) hw' fun d ws'' h₅ hw₅ => ?_
    walk_at "awm"
    refine B_mod (i := (ns.length : Int) + (d : Int)) (j := 3) (by decide) ?_
    rw [show (((ns.length : Int) + (d : Int)).fmod 3) = (((ns.length + d) % 3 : Nat) : Int) from fmod_n]
    have h3 : (ns.length + d) % 3 < 3 := Nat.mod_lt _ (by decide)
    refine G_at (xs := [.str "x", .str "y", .str "z"]) h3 (by simp) ?_
    obtain ⟨m, hm4, hme⟩ : ∃ m ∈ names4, ([.str "x", .str "y", .str "z"] : List FV).getD ((ns.length + d) % 3) .none = .str m := by
      obtain h | h | h := of3 _ h3
      · rw [h]; exact ⟨"x", by decide, rfl⟩
      · rw [h]; exact ⟨"y", by decide, rfl⟩
      · rw [h]; exact ⟨"z", by decide, rfl⟩
    rw [hme]
    refine ⟨rfl, ns ++ [m], ws'', by rw [List.map_append, List.map_append]; rfl, fun y hy => ?_, by rw [List.length_append]; exact hi1, by rw [List.length_append]; exact hxs, rfl, hw₅⟩
    rcases List.mem_append.mp hy with q | q
    · exact hns y q
    · rw [List.mem_singleton.mp q]; exact hm4
end

theorem ints_vfs {prog : Program} {w : World} {Z : Fz} : ∀ {vs : List Value} {is : List Int}, IntsAre vs is → VFs prog w Z (is.map .int) vs
  | _, _, .nil => .nil
  | _, _, .cons n t r => .cons .int (ints_vfs r)
theorem ledger_top (cells : Led) : (ledger [] cells [] ⟨[], []⟩ []).Perm cells := by unfold ledger led; simp
theorem law_pk : ((["script"] : List Str).all fun x => lawD.scope.names.lookup x == some .local || lawD.scope.names.lookup x == some .cell) = true := by decide +kernel
theorem law_ok : (lawLoc.all fun x => lawD.scope.names.lookup x == some .local) = true := by decide +kernel
theorem law_nn : (lawD.scope.names.all fun q => lawD.scope.names.lookup q.1 == some q.2) = true := by decide +kernel
theorem law_cn : ((cellsFrom 0 lawD.scope.names []).map (·.1)).Nodup := by decide +kernel
theorem law_ck (L : Nat) : (cellsFrom (L + 1) lawD.scope.names []).map (fun q => (([(("script" : Str), AV.cst (.ref 0))] : List (Str × AV)).lookup q.1)) = [none, none, none, none, none, none, none, none, none] := by rfl
theorem law_top {prog : Program} {w : World} {p : Program} {loose : List Str} {mean : ExcName → Option Value} {mg mb : Str → Option Value} (s : Shared) (X : (Mine.KK w.params).In s.heap) (T : Top p loose mean mg mb s.heap)
    {fa : Addr} {cd pm doc : Value} {o : Obj} (ho : s.heap.get? fa = some o) (hd : o.data = .func (docDef "law" lawD.params lawD.body lawD.scope pm cd doc)) (hcd : s.heap.CodeRec cd "law")
    {a : Addr} {vs : List Value} {is : List Int} (hL : s.heap.IsList a vs.toArray) (hI : IntsAre vs is) (hz : is.length ≤ 1000) {R : Result → Shared → Prop}
    (k : ∀ s', (∀ b o, s.heap.get? b = some o → s'.heap.get? b = some o) → s'.os = s.os → s'.gens = s.gens → R (.ok (.ret (.bool true))) s') :
    codeAny (model prog w) callerA (.call (.ref fa) ⟨[.ref a], []⟩) R s := by
  let g : Gl := ⟨prog, w, Mine.KK w.params, p, loose, mean, mg, mb, s.gens, s.drawn, s.os⟩
  have hg : HK g := rfl
  have S : SigC g.K (docDef "law" lawD.params lawD.body lawD.scope pm cd doc) ["script"] lawLoc [] [] :=
    ⟨fun s vs hK hv => by obtain ⟨a, rfl⟩ := len1 hv; exact BindsTo.of_eq rfl, fun _ _ _ => .nil, law_pk, by decide, law_ok, by decide, law_nn, law_cn⟩
  refine call_cellsN_ret (binds := [("script", .ref a)]) (by decide) ho hd T.nolimit hcd rfl (fun x hx => ?_) law_cn (fun h₁ tk cells F N Y' => ?_) rfl rfl rfl
  · rw [List.mem_singleton.mp hx]; exact .inl rfl
  let env := envOfC "law" lawD.scope s.heap.objs.size fa cd
  let C : Cx := { A := callerA.deeper env, env := env, fenv := env, outer := [], A₀ := callerA, base := s.heap, h₀ := s.heap, L := s.heap.objs.size, mode := .fn, slots := lawSl s.heap.objs.size, pl := false }
  obtain ⟨f1, f2, f3⟩ := slotsC_facts S s.heap.objs.size (env := env) rfl rfl
  have es : slotsC (docDef "law" lawD.params lawD.body lawD.scope pm cd doc).scope lawLoc s.heap.objs.size = lawSl s.heap.objs.size := law_slots _
  rw [es] at f1 f2 f3
  have ok : Ok g C (4 + 8) := { B := below_caller s.heap, X := X, T := T, fr := Around.frames_deeper rfl, fL := rfl, fk := rfl, hh := rfl, ek := rfl, eg := rfl, eb := rfl, el := rfl, ef := rfl, kl := f1, kc := f2, nd := f3, rd := (by decide : callerA.depth + 1 + 2 * (4 + 8) < recursionLimit), ru := (by decide : callerA.units + 3 + 8 * (4 + 8) < cLine) }
  have lf : LF g C fa cd "law" := ⟨rfl, rfl, rfl, rfl, rfl, rfl⟩
  have hVR : VRs prog w ⟨[], []⟩ [] [AV.cst (.ref a)] [.ref a] := .cons (.f (.cst rfl)) .nil
  have sr : SR g ⟨[], []⟩ [] (bindL env.kindOf [(("script" : Str), Value.ref a)] fun _ => none) (lawSl s.heap.objs.size) [none, none, none, none, none, none, none, none, none, some (.cst (.ref a)), none, none, none, none, none, none, none, none, none, none, none, none, none, none, none, none, none] cells := by
    have hck := cells_kind (names := lawD.scope.names) (fun q hq => beq_iff_eq.mp (List.all_eq_true.mp law_nn q hq)) lawD.scope.names (s.heap.objs.size + 1) [] (fun _ h => h) (fun _ h => nomatch h)
    have := sr_cells (g := g) (Z := ⟨[], []⟩) (φ := []) (ps := ["script"]) (xs := [AV.cst (.ref a)]) (os := lawLoc) (m := bindL env.kindOf [(("script" : Str), Value.ref a)] fun _ => none) (fun x hx => ov_bindL (k := env.kindOf) (ps := ["script"]) (vs := [.ref a]) (beq_iff_eq.mp (List.all_eq_true.mp law_ok x hx)) hVR (by decide)) Y'
      fun q hq => ov_bindC (k := env.kindOf) (ps := ["script"]) (vs := [.ref a]) (fun e => by have h := hck q hq; have e : lawD.scope.names.lookup q.1 = some .local := e; rw [h] at e; cases e) hVR (by decide)
    exact this
  have r : Rel g C [] ⟨[], []⟩ [] ⟨[], [none, none, none, none, none, none, none, none, none, some (.cst (.ref a)), none, none, none, none, none, none, none, none, none, none, none, none, none, none, none, none, none]⟩ h₁ := ⟨_, [], cells, ⟨F, newsPerm N (ledger_top cells), (((ledger_top cells).map (·.1)).nodup_iff).mpr (by rw [cells_adr Y']; exact cellsFrom_nd _ _ _ .nil (fun _ h => nomatch h)), ⟨rfl, sr⟩, .nil⟩⟩
  exact law_ret hg ok lf (fun h k => let ⟨o, ho, r⟩ := hL; ⟨o, k _ _ ho, r⟩) (fun _ => ints_vfs hI) hz [] ⟨[], []⟩ [] h₁ tk r _ _ (fun b σ' v Z' W' h' tk' hq r' f' c' x' => by
    subst hq
    obtain ⟨mF, kd, Cs, r'⟩ := r'
    cases x' with | ret hv => cases vr_bool hv; exact k _ r'.fr.keep rfl rfl) fun e s' z => z.elim

end
end Mine
theorem PySem.Challenge.cw_sm0097_01_holds : PySem.Challenge.rw_sm0097_01.Holds := by
  refine Mine.hd ?_
  intro w s₀ s₁ mg mb G Y fa o pm cd doc dV kV ho hd hcd hD hmg hg args vals as hpre hlay hrd hwl hlo
  have KX := kIn_of Y
  refine Ground.open G ?_
  intro T B D TE TW
  have he := Dflts.none hD rfl
  subst he
  have he := Dflts.noKw hD
  subst he
  clear D TE TW B hD hmg
  wrow_args hpre hlay hrd hwl hlo
  rename_i is hs hlay0 hL1 hr1 hl2 as4 as3 a vs as0 hL ra w1 r0 hI hr hc1 hc2
  refine enter_call ?_
  refine Mine.law_top s₁ KX T ho (fd_plain hd) hcd hL hI (by omega) fun s' h1 h2 h3 => GoodW.toG ⟨.inl ⟨.bool true, .bool true, [], rfl, ?_, .bool true, ?_, ?_⟩, h1, h2, h3.trans hg⟩
  · exact fun cls => rfl
  · wrow_post
  · exact fun _ => ⟨.nil, fun _ h => nomatch h⟩

