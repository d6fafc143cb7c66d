import PyProof.Rows.All
import Wide.All
import OpenK.AllK
import Wide.FinOn
import PySem.Challenge.RW_ot0028_01
set_option Elab.async false
set_option genSizeOf false
set_option bootstrap.genMatcherCode false
section
open PySem PySem.W PyProof.Rows PySem.Calls
set_option maxRecDepth 100000
set_option autoImplicit false
set_option linter.unusedVariables false
namespace Mine
/-- a statement of the program's top -/
noncomputable def topS (i : Nat) : Stmt := (PySem.Challenge.pw_ot0028_01.main.body)[i]?.getD (.Pass ⟨0, 0, 0, 0⟩)
/-- a statement of a class's text -/
noncomputable def insS (i j : Nat) : Stmt := match topS i with
  | .ClassDef (body := b) .. => b[j]?.getD (.Pass ⟨0, 0, 0, 0⟩)
  | s => s
/-- the function that a def makes -/
noncomputable def fdS (s : Stmt) (q : Str) (d pm cd : Value) : FuncData := match s with
  | .FunctionDef n a b _ _ _ sc _ _ _ => { name := n, qualname := q, params := a, body := .stmts b, scope := sc, globals := mainGlobals, closure := [], defaults := d, kwdefaults := .none, doc := .none, pyModule := pm, code := cd, builtins := builtinsNs }
  | _ => default
noncomputable def KA : List Addr := [3, 22, 28, 29, 31, 32, 44, 45, 111, 112, 116, 117, 133, 134, 138, 139, 145, 146, 152, 153, 157, 158, 162, 163, 169, 170, 174, 175, 181, 182, 186, 187, 193, 194, 198, 199, 203, 204, 210, 211, 215, 216, 222, 223, 229, 230, 234, 235, 241, 242, 248, 249, 262, 263, 265, 266, 276, 277, 283, 284, 290, 291, 297, 298, 304, 305, 309, 310, 314, 315, 319, 320]
noncomputable def KF (P : Params) : Frag := [
  (3, ⟨(.type "dict"), none, (.dict [⟨PyData.keyHash P (.ofString "__name__"), (.str (.ofString "__name__") 165), (.str (.ofString "law_ot0028_01") 580)⟩, ⟨PyData.keyHash P (.ofString "__doc__"), (.str (.ofString "__doc__") 166), .none⟩, ⟨PyData.keyHash P (.ofString "__package__"), (.str (.ofString "__package__") 167), .none⟩, ⟨PyData.keyHash P (.ofString "__loader__"), (.str (.ofString "__loader__") 168), (.builtin "__main__.__loader__#opaque")⟩, ⟨PyData.keyHash P (.ofString "__spec__"), (.str (.ofString "__spec__") 169), .none⟩, ⟨PyData.keyHash P (.ofString "__annotations__"), (.str (.ofString "__annotations__") 170), (.ref 6)⟩, ⟨PyData.keyHash P (.ofString "__builtins__"), (.str (.ofString "__builtins__") 171), (.ref 4)⟩, ⟨PyData.keyHash P (.ofString "__file__"), (.str (.ofString "__file__") 173), (.str (.ofString "/claim/cut.py") 172)⟩, ⟨PyData.keyHash P (.ofString "__cached__"), (.str (.ofString "__cached__") 174), .none⟩, ⟨PyData.keyHash P (.ofString "LendError"), (.str (.ofString "LendError") 220), (.ref 32)⟩, ⟨PyData.keyHash P (.ofString "PatternFault"), (.str (.ofString "PatternFault") 236), (.ref 45)⟩, ⟨PyData.keyHash P (.ofString "BITS"), (.str (.ofString "BITS") 266), (.ref 48)⟩, ⟨PyData.keyHash P (.ofString "is_signed"), (.str (.ofString "is_signed") 273), (.ref 55)⟩, ⟨PyData.keyHash P (.ofString "least"), (.str (.ofString "least") 280), (.ref 62)⟩, ⟨PyData.keyHash P (.ofString "greatest"), (.str (.ofString "greatest") 287), (.ref 69)⟩, ⟨PyData.keyHash P (.ofString "parts_of"), (.str (.ofString "parts_of") 297), (.ref 139)⟩, ⟨PyData.keyHash P (.ofString "parts_of_types"), (.str (.ofString "parts_of_types") 298), (.ref 76)⟩, ⟨PyData.keyHash P (.ofString "rebuilt"), (.str (.ofString "rebuilt") 307), (.ref 182)⟩, ⟨PyData.keyHash P (.ofString "rebuilt_types"), (.str (.ofString "rebuilt_types") 308), (.ref 83)⟩, ⟨PyData.keyHash P (.ofString "substituted"), (.str (.ofString "substituted") 314), (.ref 88)⟩, ⟨PyData.keyHash P (.ofString "with_regions"), (.str (.ofString "with_regions") 320), (.ref 93)⟩, ⟨PyData.keyHash P (.ofString "field_rows"), (.str (.ofString "field_rows") 329), (.ref 100)⟩, ⟨PyData.keyHash P (.ofString "fields_of"), (.str (.ofString "fields_of") 335), (.ref 105)⟩, ⟨PyData.keyHash P (.ofString "MOST_DEEP"), (.str (.ofString "MOST_DEEP") 339), (.int 30 338)⟩, ⟨PyData.keyHash P (.ofString "bare"), (.str (.ofString "bare") 346), (.ref 112)⟩, ⟨PyData.keyHash P (.ofString "opened"), (.str (.ofString "opened") 352), (.ref 117)⟩, ⟨PyData.keyHash P (.ofString "bounds_of"), (.str (.ofString "bounds_of") 359), (.ref 124)⟩, ⟨PyData.keyHash P (.ofString "ranges_of"), (.str (.ofString "ranges_of") 365), (.ref 129)⟩, ⟨PyData.keyHash P (.ofString "constructors"), (.str (.ofString "constructors") 371), (.ref 134)⟩, ⟨PyData.keyHash P (.ofString "parts_of_usefulness"), (.str (.ofString "parts_of_usefulness") 378), (.ref 139)⟩, ⟨PyData.keyHash P (.ofString "taken"), (.str (.ofString "taken") 390), (.ref 146)⟩, ⟨PyData.keyHash P (.ofString "narrowed"), (.str (.ofString "narrowed") 402), (.ref 153)⟩, ⟨PyData.keyHash P (.ofString "rest_of"), (.str (.ofString "rest_of") 408), (.ref 158)⟩, ⟨PyData.keyHash P (.ofString "are_wild"), (.str (.ofString "are_wild") 414), (.ref 163)⟩, ⟨PyData.keyHash P (.ofString "is_useful"), (.str (.ofString "is_useful") 426), (.ref 170)⟩, ⟨PyData.keyHash P (.ofString "is_useful_by_parts"), (.str (.ofString "is_useful_by_parts") 432), (.ref 175)⟩, ⟨PyData.keyHash P (.ofString "rebuilt_usefulness"), (.str (.ofString "rebuilt_usefulness") 443), (.ref 182)⟩, ⟨PyData.keyHash P (.ofString "left_out"), (.str (.ofString "left_out") 449), (.ref 187)⟩, ⟨PyData.keyHash P (.ofString "left_out_wild"), (.str (.ofString "left_out_wild") 459), (.ref 194)⟩, ⟨PyData.keyHash P (.ofString "has_value"), (.str (.ofString "has_value") 465), (.ref 199)⟩, ⟨PyData.keyHash P (.ofString "missing"), (.str (.ofString "missing") 471), (.ref 204)⟩, ⟨PyData.keyHash P (.ofString "useless"), (.str (.ofString "useless") 485), (.ref 211)⟩, ⟨PyData.keyHash P (.ofString "inner_of"), (.str (.ofString "inner_of") 493), (.ref 216)⟩, ⟨PyData.keyHash P (.ofString "inner_of_match"), (.str (.ofString "inner_of_match") 504), (.ref 223)⟩, ⟨PyData.keyHash P (.ofString "inner_of_block"), (.str (.ofString "inner_of_block") 514), (.ref 230)⟩, ⟨PyData.keyHash P (.ofString "check_arms"), (.str (.ofString "check_arms") 520), (.ref 235)⟩, ⟨PyData.keyHash P (.ofString "check_lets"), (.str (.ofString "check_lets") 529), (.ref 242)⟩, ⟨PyData.keyHash P (.ofString "check_matches"), (.str (.ofString "check_matches") 540), (.ref 249)⟩, ⟨PyData.keyHash P (.ofString "TypedFn"), (.str (.ofString "TypedFn") 579), (.ref 266)⟩, ⟨PyData.keyHash P (.ofString "_law_pool"), (.str (.ofString "_law_pool") 592), (.ref 277)⟩, ⟨PyData.keyHash P (.ofString "_law_take"), (.str (.ofString "_law_take") 601), (.ref 284)⟩, ⟨PyData.keyHash P (.ofString "_law_one"), (.str (.ofString "_law_one") 609), (.ref 291)⟩, ⟨PyData.keyHash P (.ofString "_law_bool"), (.str (.ofString "_law_bool") 615), (.ref 298)⟩, ⟨PyData.keyHash P (.ofString "_law_arms"), (.str (.ofString "_law_arms") 625), (.ref 305)⟩, ⟨PyData.keyHash P (.ofString "_law_node"), (.str (.ofString "_law_node") 631), (.ref 310)⟩, ⟨PyData.keyHash P (.ofString "_law_told"), (.str (.ofString "_law_told") 637), (.ref 315)⟩, ⟨PyData.keyHash P (.ofString "law"), (.str (.ofString "law") 643), (.ref 320)⟩].toArray 57), [].toArray⟩),
  (22, ⟨(.type "tuple"), none, (.seq [(.int 0 201)].toArray 0), [].toArray⟩),
  (28, ⟨(.type "code"), none, (.fields [(.str (.ofString "__init__") 202), (.str (.ofString "LendError.__init__") 203), (.str (.ofString "/claim/cut.py") 204), (.int 4 0), (.int 3 0), (.int 0 0), (.int 0 0), (.int 3 0), (.ref 23), (.bool true), (.int 181 0), (.ref 24), .none, (.ref 25), (.ref 26), (.ref 27), (.int 208 0), (.int 4 0), (.str (.ofString "/claim/cut.py") 209)].toArray), [].toArray⟩),
  (29, ⟨(.type "function"), none, (.func (fdS (insS 1 0) (.ofString "LendError.__init__") (.ref 22) (.str (.ofString "lendcore.errors") 187) (.ref 28))), [].toArray⟩),
  (31, ⟨(.type "dict"), none, (.dict [⟨PyData.keyHash P (.ofString "__module__"), (.str (.ofString "__module__") 196), (.str (.ofString "lendcore.errors") 187)⟩, ⟨PyData.keyHash P (.ofString "__firstlineno__"), (.str (.ofString "__firstlineno__") 200), (.int 2 199)⟩, ⟨PyData.keyHash P (.ofString "__init__"), (.str (.ofString "__init__") 210), (.ref 29)⟩, ⟨PyData.keyHash P (.ofString "__static_attributes__"), (.str (.ofString "__static_attributes__") 213), (.ref 30)⟩, ⟨PyData.keyHash P (.ofString "__weakref__"), (.str (.ofString "__weakref__") 215), (.ref 33)⟩, ⟨PyData.keyHash P (.ofString "__doc__"), (.str (.ofString "__doc__") 216), .none⟩].toArray 3), [].toArray⟩),
  (32, ⟨(.type "type"), none, (.cls { name := (.ofString "LendError"), bases := [(.type "Exception")], mro := [(.ref 32), (.type "Exception"), (.type "BaseException"), (.type "object")], ns := 31, qualname := (.ofString "LendError"), hasDict := true, slotNames := [], subclasses := [(.ref 45)], abstract := false, collection := none }), [(some (.ref 15)), none, (some (.str (.ofString "LendError") 189)), (some (.str (.ofString "LendError") 197)), (some (.builtin "Exception.__new__")), (some (.bool true))].toArray⟩),
  (44, ⟨(.type "dict"), none, (.dict [⟨PyData.keyHash P (.ofString "__module__"), (.str (.ofString "__module__") 228), (.str (.ofString "lendcore.errors") 187)⟩, ⟨PyData.keyHash P (.ofString "__firstlineno__"), (.str (.ofString "__firstlineno__") 232), (.int 8 231)⟩, ⟨PyData.keyHash P (.ofString "__static_attributes__"), (.str (.ofString "__static_attributes__") 233), (.ref 43)⟩, ⟨PyData.keyHash P (.ofString "__doc__"), (.str (.ofString "__doc__") 234), .none⟩].toArray 2), [].toArray⟩),
  (45, ⟨(.type "type"), none, (.cls { name := (.ofString "PatternFault"), bases := [(.ref 32)], mro := [(.ref 45), (.ref 32), (.type "Exception"), (.type "BaseException"), (.type "object")], ns := 44, qualname := (.ofString "PatternFault"), hasDict := true, slotNames := [], subclasses := [], abstract := false, collection := none }), [(some (.ref 36)), none, (some (.str (.ofString "PatternFault") 221)), (some (.str (.ofString "PatternFault") 229)), (some (.builtin "Exception.__new__")), (some (.bool true))].toArray⟩),
  (111, ⟨(.type "code"), none, (.fields [(.str (.ofString "bare") 340), (.str (.ofString "bare") 341), (.str (.ofString "/claim/cut.py") 342), (.int 67 0), (.int 1 0), (.int 0 0), (.int 0 0), (.int 3 0), (.ref 106), (.bool true), (.int 181 0), (.ref 107), .none, (.ref 108), (.ref 109), (.ref 110), (.int 344 0), (.int 67 0), (.str (.ofString "/claim/cut.py") 345)].toArray), [].toArray⟩),
  (112, ⟨(.type "function"), none, (.func (fdS (topS 19) (.ofString "bare") .none (.str (.ofString "lendcore.usefulness") 336) (.ref 111))), [].toArray⟩),
  (116, ⟨(.type "code"), none, (.fields [(.str (.ofString "opened") 347), (.str (.ofString "opened") 348), (.str (.ofString "/claim/cut.py") 349), (.int 73 0), (.int 1 0), (.int 0 0), (.int 0 0), (.int 3 0), (.ref 113), (.bool true), (.int 181 0), (.ref 114), .none, .none, .none, (.ref 115), (.int 350 0), (.int 73 0), (.str (.ofString "/claim/cut.py") 351)].toArray), [].toArray⟩),
  (117, ⟨(.type "function"), none, (.func (fdS (topS 20) (.ofString "opened") .none (.str (.ofString "lendcore.usefulness") 336) (.ref 116))), [].toArray⟩),
  (133, ⟨(.type "code"), none, (.fields [(.str (.ofString "constructors") 366), (.str (.ofString "constructors") 367), (.str (.ofString "/claim/cut.py") 368), (.int 96 0), (.int 3 0), (.int 0 0), (.int 0 0), (.int 3 0), (.ref 130), (.bool true), (.int 181 0), (.ref 131), .none, .none, .none, (.ref 132), (.int 369 0), (.int 96 0), (.str (.ofString "/claim/cut.py") 370)].toArray), [].toArray⟩),
  (134, ⟨(.type "function"), none, (.func (fdS (topS 23) (.ofString "constructors") .none (.str (.ofString "lendcore.usefulness") 336) (.ref 133))), [].toArray⟩),
  (138, ⟨(.type "code"), none, (.fields [(.str (.ofString "parts_of") 372), (.str (.ofString "parts_of") 373), (.str (.ofString "/claim/cut.py") 374), (.int 111 0), (.int 3 0), (.int 0 0), (.int 0 0), (.int 3 0), (.ref 135), (.bool true), (.int 181 0), (.ref 136), .none, .none, .none, (.ref 137), (.int 375 0), (.int 111 0), (.str (.ofString "/claim/cut.py") 376)].toArray), [].toArray⟩),
  (139, ⟨(.type "function"), none, (.func (fdS (topS 24) (.ofString "parts_of") .none (.str (.ofString "lendcore.usefulness") 336) (.ref 138))), [].toArray⟩),
  (145, ⟨(.type "code"), none, (.fields [(.str (.ofString "taken") 379), (.str (.ofString "taken") 380), (.str (.ofString "/claim/cut.py") 381), (.int 121 0), (.int 3 0), (.int 0 0), (.int 0 0), (.int 3 0), (.ref 140), (.bool true), (.int 181 0), (.ref 141), .none, (.ref 142), (.ref 143), (.ref 144), (.int 388 0), (.int 121 0), (.str (.ofString "/claim/cut.py") 389)].toArray), [].toArray⟩),
  (146, ⟨(.type "function"), none, (.func (fdS (topS 26) (.ofString "taken") .none (.str (.ofString "lendcore.usefulness") 336) (.ref 145))), [].toArray⟩),
  (152, ⟨(.type "code"), none, (.fields [(.str (.ofString "narrowed") 391), (.str (.ofString "narrowed") 392), (.str (.ofString "/claim/cut.py") 393), (.int 135 0), (.int 3 0), (.int 0 0), (.int 0 0), (.int 3 0), (.ref 147), (.bool true), (.int 181 0), (.ref 148), .none, (.ref 149), (.ref 150), (.ref 151), (.int 400 0), (.int 135 0), (.str (.ofString "/claim/cut.py") 401)].toArray), [].toArray⟩),
  (153, ⟨(.type "function"), none, (.func (fdS (topS 27) (.ofString "narrowed") .none (.str (.ofString "lendcore.usefulness") 336) (.ref 152))), [].toArray⟩),
  (157, ⟨(.type "code"), none, (.fields [(.str (.ofString "rest_of") 403), (.str (.ofString "rest_of") 404), (.str (.ofString "/claim/cut.py") 405), (.int 142 0), (.int 1 0), (.int 0 0), (.int 0 0), (.int 3 0), (.ref 154), (.bool true), (.int 181 0), (.ref 155), .none, .none, .none, (.ref 156), (.int 406 0), (.int 142 0), (.str (.ofString "/claim/cut.py") 407)].toArray), [].toArray⟩),
  (158, ⟨(.type "function"), none, (.func (fdS (topS 28) (.ofString "rest_of") .none (.str (.ofString "lendcore.usefulness") 336) (.ref 157))), [].toArray⟩),
  (162, ⟨(.type "code"), none, (.fields [(.str (.ofString "are_wild") 409), (.str (.ofString "are_wild") 410), (.str (.ofString "/claim/cut.py") 411), (.int 144 0), (.int 1 0), (.int 0 0), (.int 0 0), (.int 3 0), (.ref 159), (.bool true), (.int 181 0), (.ref 160), .none, .none, .none, (.ref 161), (.int 412 0), (.int 144 0), (.str (.ofString "/claim/cut.py") 413)].toArray), [].toArray⟩),
  (163, ⟨(.type "function"), none, (.func (fdS (topS 29) (.ofString "are_wild") .none (.str (.ofString "lendcore.usefulness") 336) (.ref 162))), [].toArray⟩),
  (169, ⟨(.type "code"), none, (.fields [(.str (.ofString "is_useful") 415), (.str (.ofString "is_useful") 416), (.str (.ofString "/claim/cut.py") 417), (.int 146 0), (.int 4 0), (.int 0 0), (.int 0 0), (.int 3 0), (.ref 164), (.bool true), (.int 181 0), (.ref 165), .none, (.ref 166), (.ref 167), (.ref 168), (.int 424 0), (.int 146 0), (.str (.ofString "/claim/cut.py") 425)].toArray), [].toArray⟩),
  (170, ⟨(.type "function"), none, (.func (fdS (topS 30) (.ofString "is_useful") .none (.str (.ofString "lendcore.usefulness") 336) (.ref 169))), [].toArray⟩),
  (174, ⟨(.type "code"), none, (.fields [(.str (.ofString "is_useful_by_parts") 427), (.str (.ofString "is_useful_by_parts") 428), (.str (.ofString "/claim/cut.py") 429), (.int 158 0), (.int 4 0), (.int 0 0), (.int 0 0), (.int 3 0), (.ref 171), (.bool true), (.int 181 0), (.ref 172), .none, .none, .none, (.ref 173), (.int 430 0), (.int 158 0), (.str (.ofString "/claim/cut.py") 431)].toArray), [].toArray⟩),
  (175, ⟨(.type "function"), none, (.func (fdS (topS 31) (.ofString "is_useful_by_parts") .none (.str (.ofString "lendcore.usefulness") 336) (.ref 174))), [].toArray⟩),
  (181, ⟨(.type "code"), none, (.fields [(.str (.ofString "rebuilt") 433), (.str (.ofString "rebuilt") 434), (.str (.ofString "/claim/cut.py") 435), (.int 168 0), (.int 3 0), (.int 0 0), (.int 0 0), (.int 3 0), (.ref 176), (.bool true), (.int 181 0), (.ref 177), .none, (.ref 178), (.ref 179), (.ref 180), (.int 440 0), (.int 168 0), (.str (.ofString "/claim/cut.py") 441)].toArray), [].toArray⟩),
  (182, ⟨(.type "function"), none, (.func (fdS (topS 32) (.ofString "rebuilt") .none (.str (.ofString "lendcore.usefulness") 336) (.ref 181))), [].toArray⟩),
  (186, ⟨(.type "code"), none, (.fields [(.str (.ofString "left_out") 444), (.str (.ofString "left_out") 445), (.str (.ofString "/claim/cut.py") 446), (.int 184 0), (.int 3 0), (.int 0 0), (.int 0 0), (.int 3 0), (.ref 183), (.bool true), (.int 181 0), (.ref 184), .none, .none, .none, (.ref 185), (.int 447 0), (.int 184 0), (.str (.ofString "/claim/cut.py") 448)].toArray), [].toArray⟩),
  (187, ⟨(.type "function"), none, (.func (fdS (topS 34) (.ofString "left_out") .none (.str (.ofString "lendcore.usefulness") 336) (.ref 186))), [].toArray⟩),
  (193, ⟨(.type "code"), none, (.fields [(.str (.ofString "left_out_wild") 450), (.str (.ofString "left_out_wild") 451), (.str (.ofString "/claim/cut.py") 452), (.int 197 0), (.int 3 0), (.int 0 0), (.int 0 0), (.int 3 0), (.ref 188), (.bool true), (.int 181 0), (.ref 189), .none, (.ref 190), (.ref 191), (.ref 192), (.int 457 0), (.int 197 0), (.str (.ofString "/claim/cut.py") 458)].toArray), [].toArray⟩),
  (194, ⟨(.type "function"), none, (.func (fdS (topS 35) (.ofString "left_out_wild") .none (.str (.ofString "lendcore.usefulness") 336) (.ref 193))), [].toArray⟩),
  (198, ⟨(.type "code"), none, (.fields [(.str (.ofString "has_value") 460), (.str (.ofString "has_value") 461), (.str (.ofString "/claim/cut.py") 462), (.int 202 0), (.int 3 0), (.int 0 0), (.int 0 0), (.int 3 0), (.ref 195), (.bool true), (.int 181 0), (.ref 196), .none, .none, .none, (.ref 197), (.int 463 0), (.int 202 0), (.str (.ofString "/claim/cut.py") 464)].toArray), [].toArray⟩),
  (199, ⟨(.type "function"), none, (.func (fdS (topS 36) (.ofString "has_value") .none (.str (.ofString "lendcore.usefulness") 336) (.ref 198))), [].toArray⟩),
  (203, ⟨(.type "code"), none, (.fields [(.str (.ofString "missing") 466), (.str (.ofString "missing") 467), (.str (.ofString "/claim/cut.py") 468), (.int 212 0), (.int 3 0), (.int 0 0), (.int 0 0), (.int 3 0), (.ref 200), (.bool true), (.int 181 0), (.ref 201), .none, .none, .none, (.ref 202), (.int 469 0), (.int 212 0), (.str (.ofString "/claim/cut.py") 470)].toArray), [].toArray⟩),
  (204, ⟨(.type "function"), none, (.func (fdS (topS 37) (.ofString "missing") .none (.str (.ofString "lendcore.usefulness") 336) (.ref 203))), [].toArray⟩),
  (210, ⟨(.type "code"), none, (.fields [(.str (.ofString "useless") 472), (.str (.ofString "useless") 473), (.str (.ofString "/claim/cut.py") 474), (.int 215 0), (.int 3 0), (.int 0 0), (.int 0 0), (.int 3 0), (.ref 205), (.bool true), (.int 181 0), (.ref 206), .none, (.ref 207), (.ref 208), (.ref 209), (.int 483 0), (.int 215 0), (.str (.ofString "/claim/cut.py") 484)].toArray), [].toArray⟩),
  (211, ⟨(.type "function"), none, (.func (fdS (topS 38) (.ofString "useless") .none (.str (.ofString "lendcore.usefulness") 336) (.ref 210))), [].toArray⟩),
  (215, ⟨(.type "code"), none, (.fields [(.str (.ofString "inner_of") 488), (.str (.ofString "inner_of") 489), (.str (.ofString "/claim/cut.py") 490), (.int 225 0), (.int 1 0), (.int 0 0), (.int 0 0), (.int 3 0), (.ref 212), (.bool true), (.int 181 0), (.ref 213), .none, .none, .none, (.ref 214), (.int 491 0), (.int 225 0), (.str (.ofString "/claim/cut.py") 492)].toArray), [].toArray⟩),
  (216, ⟨(.type "function"), none, (.func (fdS (topS 40) (.ofString "inner_of") .none (.str (.ofString "lendcore.matches") 486) (.ref 215))), [].toArray⟩),
  (222, ⟨(.type "code"), none, (.fields [(.str (.ofString "inner_of_match") 494), (.str (.ofString "inner_of_match") 495), (.str (.ofString "/claim/cut.py") 496), (.int 252 0), (.int 1 0), (.int 0 0), (.int 0 0), (.int 3 0), (.ref 217), (.bool true), (.int 181 0), (.ref 218), .none, (.ref 219), (.ref 220), (.ref 221), (.int 502 0), (.int 252 0), (.str (.ofString "/claim/cut.py") 503)].toArray), [].toArray⟩),
  (223, ⟨(.type "function"), none, (.func (fdS (topS 41) (.ofString "inner_of_match") .none (.str (.ofString "lendcore.matches") 486) (.ref 222))), [].toArray⟩),
  (229, ⟨(.type "code"), none, (.fields [(.str (.ofString "inner_of_block") 505), (.str (.ofString "inner_of_block") 506), (.str (.ofString "/claim/cut.py") 507), (.int 259 0), (.int 1 0), (.int 0 0), (.int 0 0), (.int 3 0), (.ref 224), (.bool true), (.int 181 0), (.ref 225), .none, (.ref 226), (.ref 227), (.ref 228), (.int 512 0), (.int 259 0), (.str (.ofString "/claim/cut.py") 513)].toArray), [].toArray⟩),
  (230, ⟨(.type "function"), none, (.func (fdS (topS 42) (.ofString "inner_of_block") .none (.str (.ofString "lendcore.matches") 486) (.ref 229))), [].toArray⟩),
  (234, ⟨(.type "code"), none, (.fields [(.str (.ofString "check_arms") 515), (.str (.ofString "check_arms") 516), (.str (.ofString "/claim/cut.py") 517), (.int 266 0), (.int 2 0), (.int 0 0), (.int 0 0), (.int 3 0), (.ref 231), (.bool true), (.int 181 0), (.ref 232), .none, .none, .none, (.ref 233), (.int 518 0), (.int 266 0), (.str (.ofString "/claim/cut.py") 519)].toArray), [].toArray⟩),
  (235, ⟨(.type "function"), none, (.func (fdS (topS 43) (.ofString "check_arms") .none (.str (.ofString "lendcore.matches") 486) (.ref 234))), [].toArray⟩),
  (241, ⟨(.type "code"), none, (.fields [(.str (.ofString "check_lets") 521), (.str (.ofString "check_lets") 522), (.str (.ofString "/claim/cut.py") 523), (.int 273 0), (.int 2 0), (.int 0 0), (.int 0 0), (.int 3 0), (.ref 236), (.bool true), (.int 181 0), (.ref 237), .none, (.ref 238), (.ref 239), (.ref 240), (.int 527 0), (.int 273 0), (.str (.ofString "/claim/cut.py") 528)].toArray), [].toArray⟩),
  (242, ⟨(.type "function"), none, (.func (fdS (topS 44) (.ofString "check_lets") .none (.str (.ofString "lendcore.matches") 486) (.ref 241))), [].toArray⟩),
  (248, ⟨(.type "code"), none, (.fields [(.str (.ofString "check_matches") 530), (.str (.ofString "check_matches") 531), (.str (.ofString "/claim/cut.py") 532), (.int 277 0), (.int 2 0), (.int 0 0), (.int 0 0), (.int 3 0), (.ref 243), (.bool true), (.int 181 0), (.ref 244), .none, (.ref 245), (.ref 246), (.ref 247), (.int 538 0), (.int 277 0), (.str (.ofString "/claim/cut.py") 539)].toArray), [].toArray⟩),
  (249, ⟨(.type "function"), none, (.func (fdS (topS 45) (.ofString "check_matches") .none (.str (.ofString "lendcore.matches") 486) (.ref 248))), [].toArray⟩),
  (262, ⟨(.type "code"), none, (.fields [(.str (.ofString "__init__") 555), (.str (.ofString "TypedFn.__init__") 556), (.str (.ofString "/claim/cut.py") 557), (.int 292 0), (.int 6 0), (.int 0 0), (.int 0 0), (.int 3 0), (.ref 257), (.bool true), (.int 181 0), (.ref 258), .none, (.ref 259), (.ref 260), (.ref 261), (.int 564 0), (.int 292 0), (.str (.ofString "/claim/cut.py") 565)].toArray), [].toArray⟩),
  (263, ⟨(.type "function"), none, (.func (fdS (insS 47 0) (.ofString "TypedFn.__init__") .none (.str (.ofString "lendcore.check_exprs") 541) (.ref 262))), [].toArray⟩),
  (265, ⟨(.type "dict"), none, (.dict [⟨PyData.keyHash P (.ofString "__module__"), (.str (.ofString "__module__") 550), (.str (.ofString "lendcore.check_exprs") 541)⟩, ⟨PyData.keyHash P (.ofString "__firstlineno__"), (.str (.ofString "__firstlineno__") 554), (.int 290 553)⟩, ⟨PyData.keyHash P (.ofString "__init__"), (.str (.ofString "__init__") 566), (.ref 263)⟩, ⟨PyData.keyHash P (.ofString "__static_attributes__"), (.str (.ofString "__static_attributes__") 572), (.ref 264)⟩, ⟨PyData.keyHash P (.ofString "__dict__"), (.str (.ofString "__dict__") 574), (.ref 267)⟩, ⟨PyData.keyHash P (.ofString "__weakref__"), (.str (.ofString "__weakref__") 576), (.ref 268)⟩, ⟨PyData.keyHash P (.ofString "__doc__"), (.str (.ofString "__doc__") 577), .none⟩].toArray 4), [].toArray⟩),
  (266, ⟨(.type "type"), none, (.cls { name := (.ofString "TypedFn"), bases := [(.type "object")], mro := [(.ref 266), (.type "object")], ns := 265, qualname := (.ofString "TypedFn"), hasDict := true, slotNames := [], subclasses := [], abstract := false, collection := none }), [none, none, (some (.str (.ofString "TypedFn") 543)), (some (.str (.ofString "TypedFn") 551)), (some (.builtin "object.__new__")), (some (.bool true))].toArray⟩),
  (276, ⟨(.type "code"), none, (.fields [(.str (.ofString "_law_pool") 582), (.str (.ofString "_law_pool") 583), (.str (.ofString "/claim/cut.py") 584), (.int 299 0), (.int 2 0), (.int 0 0), (.int 0 0), (.int 3 0), (.ref 271), (.bool true), (.int 181 0), (.ref 272), .none, (.ref 273), (.ref 274), (.ref 275), (.int 590 0), (.int 299 0), (.str (.ofString "/claim/cut.py") 591)].toArray), [].toArray⟩),
  (277, ⟨(.type "function"), none, (.func (fdS (topS 49) (.ofString "_law_pool") .none (.str (.ofString "law_ot0028_01") 580) (.ref 276))), [].toArray⟩),
  (283, ⟨(.type "code"), none, (.fields [(.str (.ofString "_law_take") 593), (.str (.ofString "_law_take") 594), (.str (.ofString "/claim/cut.py") 595), (.int 306 0), (.int 2 0), (.int 0 0), (.int 0 0), (.int 3 0), (.ref 278), (.bool true), (.int 181 0), (.ref 279), .none, (.ref 280), (.ref 281), (.ref 282), (.int 599 0), (.int 306 0), (.str (.ofString "/claim/cut.py") 600)].toArray), [].toArray⟩),
  (284, ⟨(.type "function"), none, (.func (fdS (topS 50) (.ofString "_law_take") .none (.str (.ofString "law_ot0028_01") 580) (.ref 283))), [].toArray⟩),
  (290, ⟨(.type "code"), none, (.fields [(.str (.ofString "_law_one") 602), (.str (.ofString "_law_one") 603), (.str (.ofString "/claim/cut.py") 604), (.int 313 0), (.int 2 0), (.int 0 0), (.int 0 0), (.int 3 0), (.ref 285), (.bool true), (.int 181 0), (.ref 286), .none, (.ref 287), (.ref 288), (.ref 289), (.int 607 0), (.int 313 0), (.str (.ofString "/claim/cut.py") 608)].toArray), [].toArray⟩),
  (291, ⟨(.type "function"), none, (.func (fdS (topS 51) (.ofString "_law_one") .none (.str (.ofString "law_ot0028_01") 580) (.ref 290))), [].toArray⟩),
  (297, ⟨(.type "code"), none, (.fields [(.str (.ofString "_law_bool") 610), (.str (.ofString "_law_bool") 611), (.str (.ofString "/claim/cut.py") 612), (.int 315 0), (.int 0 0), (.int 0 0), (.int 0 0), (.int 3 0), (.ref 292), (.bool true), (.int 181 0), (.ref 293), .none, (.ref 294), (.ref 295), (.ref 296), (.int 613 0), (.int 315 0), (.str (.ofString "/claim/cut.py") 614)].toArray), [].toArray⟩),
  (298, ⟨(.type "function"), none, (.func (fdS (topS 52) (.ofString "_law_bool") .none (.str (.ofString "law_ot0028_01") 580) (.ref 297))), [].toArray⟩),
  (304, ⟨(.type "code"), none, (.fields [(.str (.ofString "_law_arms") 616), (.str (.ofString "_law_arms") 617), (.str (.ofString "/claim/cut.py") 618), (.int 317 0), (.int 0 0), (.int 0 0), (.int 0 0), (.int 3 0), (.ref 299), (.bool true), (.int 181 0), (.ref 300), .none, (.ref 301), (.ref 302), (.ref 303), (.int 623 0), (.int 317 0), (.str (.ofString "/claim/cut.py") 624)].toArray), [].toArray⟩),
  (305, ⟨(.type "function"), none, (.func (fdS (topS 53) (.ofString "_law_arms") .none (.str (.ofString "law_ot0028_01") 580) (.ref 304))), [].toArray⟩),
  (309, ⟨(.type "code"), none, (.fields [(.str (.ofString "_law_node") 626), (.str (.ofString "_law_node") 627), (.str (.ofString "/claim/cut.py") 628), (.int 324 0), (.int 3 0), (.int 0 0), (.int 0 0), (.int 3 0), (.ref 306), (.bool true), (.int 181 0), (.ref 307), .none, .none, .none, (.ref 308), (.int 629 0), (.int 324 0), (.str (.ofString "/claim/cut.py") 630)].toArray), [].toArray⟩),
  (310, ⟨(.type "function"), none, (.func (fdS (topS 54) (.ofString "_law_node") .none (.str (.ofString "law_ot0028_01") 580) (.ref 309))), [].toArray⟩),
  (314, ⟨(.type "code"), none, (.fields [(.str (.ofString "_law_told") 632), (.str (.ofString "_law_told") 633), (.str (.ofString "/claim/cut.py") 634), (.int 366 0), (.int 2 0), (.int 0 0), (.int 0 0), (.int 3 0), (.ref 311), (.bool true), (.int 181 0), (.ref 312), .none, .none, .none, (.ref 313), (.int 635 0), (.int 366 0), (.str (.ofString "/claim/cut.py") 636)].toArray), [].toArray⟩),
  (315, ⟨(.type "function"), none, (.func (fdS (topS 55) (.ofString "_law_told") .none (.str (.ofString "law_ot0028_01") 580) (.ref 314))), [].toArray⟩),
  (319, ⟨(.type "code"), none, (.fields [(.str (.ofString "law") 638), (.str (.ofString "law") 639), (.str (.ofString "/claim/cut.py") 640), (.int 373 0), (.int 1 0), (.int 0 0), (.int 0 0), (.int 3 0), (.ref 316), (.bool true), (.int 181 0), (.ref 317), .none, .none, .none, (.ref 318), (.int 641 0), (.int 373 0), (.str (.ofString "/claim/cut.py") 642)].toArray), [].toArray⟩),
  (320, ⟨(.type "function"), none, (.func (fdS (topS 56) (.ofString "law") .none (.str (.ofString "law_ot0028_01") 580) (.ref 319))), [].toArray⟩)]
noncomputable def qv : Program := view PySem.Challenge.pw_ot0028_01 [56]
theorem KA_ok (P : Params) : KA = (KF P).map (·.1) := by kernel_rfl
end Mine
end
section
open PySem PySem.W PyProof.Rows PySem.Calls
set_option maxRecDepth 100000
set_option linter.unusedVariables false
set_option autoImplicit false
namespace Mine

inductive V where
  | none
  | bool (b : Bool)
  | int (i : Int)
  | str (k : Nat)
  | tup (l : List V)
  | ref (k : Nat)
  | obj (a : Nat)
  deriving Inhabited

noncomputable abbrev Store := List (List V)

/-- what the names and the texts of the program are called here -/
structure Tab where
  nm : Nat → Str
  n : Nat
  inj : ∀ i j, i < n → j < n → nm i = nm j → i = j
  dbg : ∀ i, i < n → (nm i == ("__debug__" : Str)) = false

section
variable (T : Tab)

inductive Rv (ρ : List Addr) (h : Heap) : Value → V → Prop
  | none : Rv ρ h .none .none
  | bool (b : Bool) : Rv ρ h (.bool b) (.bool b)
  | int (i : Int) (t : Tok) : Rv ρ h (.int i t) (.int i)
  | str (k : Nat) (t : Tok) : k < T.n → Rv ρ h (.str (T.nm k) t) (.str k)
  | tup (a : Addr) (vals : List Value) (l : List V) (n : Nat) : h.get? a = some { cls := .type "tuple", data := .seq vals.toArray n } → vals.length = l.length →
      (∀ (i : Nat) (x : Value) (y : V), vals[i]? = some x → l[i]? = some y → Rv ρ h x y) → Rv ρ h (.ref a) (.tup l)
  | ref (k : Nat) (a : Addr) : ρ[k]? = some a → Rv ρ h (.ref a) (.ref k)
  | obj (a : Addr) : Rv ρ h (.ref a) (.obj a)

noncomputable def RvL (ρ : List Addr) (h : Heap) : List Value → List V → Prop
  | [], [] => True
  | x :: xs, y :: ys => Rv T ρ h x y ∧ RvL ρ h xs ys
  | _, _ => False

structure St (ρ : List Addr) (σ : Store) (h : Heap) : Prop where
  len : ρ.length = σ.length
  nd : ρ.Nodup
  lst : ∀ (k : Nat) (a : Addr) (l : List V), ρ[k]? = some a → σ[k]? = some l → ∃ vals n, h.get? a = some (listOf vals.toArray n) ∧ RvL T ρ h vals l

/-- the heap grows: what is no list of the store stands -/
structure Grow (ρ : List Addr) (h : Heap) (ρ' : List Addr) (h' : Heap) : Prop where
  more : ∃ m, ρ' = ρ ++ m ∧ ∀ a ∈ m, h.get? a = none
  keep : ∀ b o, h.get? b = some o → b ∉ ρ → ∃ sl, h'.get? b = some { o with slots := sl } ∧ ((∀ es ep, o.data ≠ .dict es ep) → sl = o.slots)
  dom : ∀ b o, h.get? b = some o → ∃ o', h'.get? b = some o'
end

variable {T : Tab}

theorem RvL.length {ρ : List Addr} {h : Heap} : ∀ {xs : List Value} {ys : List V}, RvL T ρ h xs ys → xs.length = ys.length
  | [], [], _ => rfl
  | _ :: _, _ :: _, ⟨_, r⟩ => by rw [List.length_cons, List.length_cons, r.length]
theorem RvL.get {ρ : List Addr} {h : Heap} : ∀ {xs : List Value} {ys : List V}, RvL T ρ h xs ys → ∀ {i : Nat} {x : Value} {y : V}, xs[i]? = some x → ys[i]? = some y → Rv T ρ h x y
  | _ :: _, _ :: _, ⟨q, _⟩, 0, _, _, e, e' => by simp at e e'; subst e e'; exact q
  | _ :: _, _ :: _, ⟨_, r⟩, i + 1, _, _, e, e' => r.get (i := i) (by simpa using e) (by simpa using e')
theorem RvL.mk' {ρ : List Addr} {h : Heap} : ∀ {xs : List Value} {ys : List V}, xs.length = ys.length → (∀ (i : Nat) (x : Value) (y : V), xs[i]? = some x → ys[i]? = some y → Rv T ρ h x y) → RvL T ρ h xs ys
  | [], [], _, _ => trivial
  | [], _ :: _, e, _ => by simp at e
  | _ :: _, [], e, _ => by simp at e
  | x :: xs, y :: ys, e, H => ⟨H 0 x y rfl rfl, RvL.mk' (by simpa using e) fun i a b h1 h2 => H (i + 1) a b (by simpa using h1) (by simpa using h2)⟩
theorem RvL.at {ρ : List Addr} {h : Heap} {xs : List Value} {ys : List V} (r : RvL T ρ h xs ys) {i : Nat} {y : V} (e : ys[i]? = some y) : ∃ x, xs[i]? = some x ∧ Rv T ρ h x y := by
  have hl := r.length
  have : i < xs.length := by rw [hl]; exact (List.getElem?_eq_some_iff.mp e).1
  exact ⟨xs[i], List.getElem?_eq_getElem this, r.get (List.getElem?_eq_getElem this) e⟩
theorem RvL.append {ρ : List Addr} {h : Heap} : ∀ {xs xs' : List Value} {ys ys' : List V}, RvL T ρ h xs ys → RvL T ρ h xs' ys' → RvL T ρ h (xs ++ xs') (ys ++ ys')
  | [], _, [], _, _, r => r
  | _ :: _, _, _ :: _, _, ⟨q, r⟩, r' => ⟨q, r.append r'⟩
theorem RvL.take {ρ : List Addr} {h : Heap} : ∀ {xs : List Value} {ys : List V} (n : Nat), RvL T ρ h xs ys → RvL T ρ h (xs.take n) (ys.take n)
  | [], [], _, _ => by simp [RvL]
  | _ :: _, _ :: _, 0, _ => by simp [RvL]
  | _ :: _, _ :: _, n + 1, ⟨q, r⟩ => ⟨q, r.take n⟩
theorem RvL.drop {ρ : List Addr} {h : Heap} : ∀ {xs : List Value} {ys : List V} (n : Nat), RvL T ρ h xs ys → RvL T ρ h (xs.drop n) (ys.drop n)
  | [], [], _, _ => by simp [RvL]
  | _ :: _, _ :: _, 0, r => r
  | _ :: _, _ :: _, n + 1, ⟨_, r⟩ => r.drop n
theorem RvL.reverse {ρ : List Addr} {h : Heap} : ∀ {xs : List Value} {ys : List V}, RvL T ρ h xs ys → RvL T ρ h xs.reverse ys.reverse
  | [], [], _ => trivial
  | _ :: _, _ :: _, ⟨q, r⟩ => by
    rw [List.reverse_cons, List.reverse_cons]
    exact r.reverse.append ⟨q, trivial⟩

theorem Rv.tup' {ρ : List Addr} {h : Heap} {a : Addr} {vals : List Value} {l : List V} {n : Nat} (e : h.get? a = some { cls := .type "tuple", data := .seq vals.toArray n }) (r : RvL T ρ h vals l) : Rv T ρ h (.ref a) (.tup l) :=
  .tup a vals l n e r.length fun _ _ _ h1 h2 => r.get h1 h2
theorem Rv.tupInv {ρ : List Addr} {h : Heap} {x : Value} {l : List V} (r : Rv T ρ h x (.tup l)) : ∃ a vals n, x = .ref a ∧ h.get? a = some { cls := .type "tuple", data := .seq vals.toArray n } ∧ RvL T ρ h vals l := by
  cases r with
  | tup a vals l n e hl H => exact ⟨a, vals, n, rfl, e, .mk' hl H⟩

theorem Rv.mono {ρ ρ' : List Addr} {h h' : Heap} (hρ : ∃ m, ρ' = ρ ++ m) (hk : ∀ a vals n, h.get? a = some { cls := .type "tuple", data := .seq vals n } → h'.get? a = some { cls := .type "tuple", data := .seq vals n }) {x : Value} {v : V} (r : Rv T ρ h x v) : Rv T ρ' h' x v := by
  induction r with
  | none => exact .none
  | bool b => exact .bool b
  | int i t => exact .int i t
  | str k t hk => exact .str k t hk
  | tup a vals l n e hl _ ih => exact .tup a vals l n (hk _ _ _ e) hl ih
  | ref k a e =>
    obtain ⟨m, rfl⟩ := hρ
    refine .ref k a ?_
    rw [List.getElem?_append_left (List.getElem?_eq_some_iff.mp e).1]
    exact e
  | obj a => exact .obj a
theorem RvL.mono {ρ ρ' : List Addr} {h h' : Heap} (hρ : ∃ m, ρ' = ρ ++ m) (hk : ∀ a vals n, h.get? a = some { cls := .type "tuple", data := .seq vals n } → h'.get? a = some { cls := .type "tuple", data := .seq vals n }) : ∀ {xs : List Value} {ys : List V}, RvL T ρ h xs ys → RvL T ρ' h' xs ys
  | [], [], _ => trivial
  | _ :: _, _ :: _, ⟨q, r⟩ => ⟨q.mono hρ hk, r.mono hρ hk⟩

/-- an address of the store bears a list -/
theorem St.isList {ρ : List Addr} {σ : Store} {h : Heap} (S : St T ρ σ h) {a : Addr} (ha : a ∈ ρ) : ∃ vals n, h.get? a = some (listOf vals n) := by
  obtain ⟨k, hk, e⟩ := List.getElem_of_mem ha
  have h2 : k < σ.length := S.len ▸ hk
  obtain ⟨vals, n, g, _⟩ := S.lst k a σ[k] (by rw [List.getElem?_eq_getElem hk, e]) (List.getElem?_eq_getElem h2)
  exact ⟨_, n, g⟩
theorem St.off {ρ : List Addr} {σ : Store} {h : Heap} (S : St T ρ σ h) {a : Addr} {o : Obj} (e : h.get? a = some o) (hc : ∀ its n, o ≠ listOf its n) : a ∉ ρ := fun hm => by
  obtain ⟨vals, n, g⟩ := S.isList hm
  rw [e] at g
  exact hc _ _ (Option.some.inj g)
theorem St.tupOff {ρ : List Addr} {σ : Store} {h : Heap} (S : St T ρ σ h) {a : Addr} {vals : Array Value} {n : Nat} (e : h.get? a = some { cls := .type "tuple", data := .seq vals n }) : a ∉ ρ :=
  S.off e fun its n q => by injection q with q; injection q with q; simp at q

theorem Grow.exact {ρ ρ' : List Addr} {h h' : Heap} (x : Grow ρ h ρ' h') {b : Addr} {o : Obj} (e : h.get? b = some o) (hb : b ∉ ρ) (hd : ∀ es ep, o.data ≠ .dict es ep) : h'.get? b = some o := by
  obtain ⟨sl, e', q⟩ := x.keep b o e hb
  rw [q hd] at e'
  exact e'
theorem Grow.mk' {ρ m : List Addr} {h h' : Heap} (hm : ∀ a ∈ m, h.get? a = none) (keep : ∀ b o, h.get? b = some o → b ∉ ρ → h'.get? b = some o) (dom : ∀ b o, h.get? b = some o → ∃ o', h'.get? b = some o') : Grow ρ h (ρ ++ m) h' :=
  ⟨⟨m, rfl, hm⟩, fun b o e hb => ⟨o.slots, keep b o e hb, fun _ => rfl⟩, dom⟩
theorem Grow.mk0 {ρ : List Addr} {h h' : Heap} (keep : ∀ b o, h.get? b = some o → b ∉ ρ → h'.get? b = some o) (dom : ∀ b o, h.get? b = some o → ∃ o', h'.get? b = some o') : Grow ρ h ρ h' :=
  ⟨⟨[], by simp, by simp⟩, fun b o e hb => ⟨o.slots, keep b o e hb, fun _ => rfl⟩, dom⟩
theorem Grow.refl (ρ : List Addr) (h : Heap) : Grow ρ h ρ h := .mk0 (fun _ _ e _ => e) fun _ o e => ⟨o, e⟩
theorem Grow.trans {ρ ρ₁ ρ₂ : List Addr} {h h₁ h₂ : Heap} (x : Grow ρ h ρ₁ h₁) (y : Grow ρ₁ h₁ ρ₂ h₂) : Grow ρ h ρ₂ h₂ := by
  obtain ⟨m, rfl, hm⟩ := x.more
  obtain ⟨m', rfl, hm'⟩ := y.more
  refine ⟨⟨m ++ m', by rw [List.append_assoc], fun a ha => ?_⟩, fun b o e hb => ?_, fun b o e => ?_⟩
  · rcases List.mem_append.mp ha with ha | ha
    · exact hm a ha
    · cases q : h.get? a with
      | none => rfl
      | some o =>
        obtain ⟨o', e'⟩ := x.dom a o q
        rw [hm' a ha] at e'; cases e'
  · have hb' : b ∉ ρ ++ m := fun hq => by
      rcases List.mem_append.mp hq with hq | hq
      · exact hb hq
      · rw [hm b hq] at e; cases e
    obtain ⟨sl, e1, q1⟩ := x.keep b o e hb
    obtain ⟨sl', e2, q2⟩ := y.keep b _ e1 hb'
    exact ⟨sl', e2, fun hd => (q2 hd).trans (q1 hd)⟩
  · obtain ⟨o', e'⟩ := x.dom b o e
    exact y.dom b o' e'
theorem Grow.mem {ρ ρ' : List Addr} {h h' : Heap} (x : Grow ρ h ρ' h') {a : Addr} (ha : a ∈ ρ) : a ∈ ρ' := by
  obtain ⟨m, rfl, _⟩ := x.more
  exact List.mem_append_left _ ha
theorem Grow.tup {ρ ρ' : List Addr} {σ : Store} {h h' : Heap} (x : Grow ρ h ρ' h') (S : St T ρ σ h) (a : Addr) (vals : Array Value) (n : Nat) (e : h.get? a = some { cls := .type "tuple", data := .seq vals n }) : h'.get? a = some { cls := .type "tuple", data := .seq vals n } :=
  x.exact e (S.tupOff e) fun es ep q => by cases q
theorem Rv.grow {ρ ρ' : List Addr} {σ : Store} {h h' : Heap} (x : Grow ρ h ρ' h') (S : St T ρ σ h) {v : Value} {a : V} (r : Rv T ρ h v a) : Rv T ρ' h' v a :=
  r.mono (let ⟨m, e, _⟩ := x.more; ⟨m, e⟩) (x.tup S)
theorem RvL.grow {ρ ρ' : List Addr} {σ : Store} {h h' : Heap} (x : Grow ρ h ρ' h') (S : St T ρ σ h) {v : List Value} {a : List V} (r : RvL T ρ h v a) : RvL T ρ' h' v a :=
  r.mono (let ⟨m, e, _⟩ := x.more; ⟨m, e⟩) (x.tup S)

/-- a new object that is no list of the store -/
theorem St.push {ρ : List Addr} {σ : Store} {h : Heap} (S : St T ρ σ h) (o : Obj) : St T ρ σ (h.push o) :=
  ⟨S.len, S.nd, fun k a l h1 h2 => by
    obtain ⟨vals, n, g, r⟩ := S.lst k a l h1 h2
    exact ⟨vals, n, Heap.get?_push_of_some o g, r.mono ⟨[], by simp⟩ fun a vals n e => Heap.get?_push_of_some o e⟩⟩
theorem Grow.push (ρ : List Addr) (h : Heap) (o : Obj) : Grow ρ h ρ (h.push o) :=
  .mk0 (fun _ _ e _ => Heap.get?_push_of_some _ e) fun _ o' e => ⟨o', Heap.get?_push_of_some o e⟩
/-- the heap grows only -/
theorem St.ext {ρ : List Addr} {σ : Store} {h h' : Heap} (S : St T ρ σ h) (hk : ∀ b o, h.get? b = some o → h'.get? b = some o) : St T ρ σ h' :=
  ⟨S.len, S.nd, fun k a l h1 h2 => by
    obtain ⟨vals, n, g, r⟩ := S.lst k a l h1 h2
    exact ⟨vals, n, hk _ _ g, r.mono ⟨[], by simp⟩ fun a vals n e => hk _ _ e⟩⟩
theorem Grow.ext {ρ : List Addr} {h h' : Heap} (hk : ∀ b o, h.get? b = some o → h'.get? b = some o) : Grow ρ h ρ h' :=
  .mk0 (fun _ _ e _ => hk _ _ e) fun _ o' e => ⟨o', hk _ _ e⟩
/-- an object that is no list of the store is changed -/
theorem St.but {ρ : List Addr} {σ : Store} {h h' : Heap} (S : St T ρ σ h) {L : Addr} (hk : Heap.ExtBut L h h') (hL : L ∉ ρ) (ht : ∀ vals n, h.get? L ≠ some { cls := .type "tuple", data := .seq vals n }) : St T ρ σ h' :=
  ⟨S.len, S.nd, fun k a l h1 h2 => by
    obtain ⟨vals, n, g, r⟩ := S.lst k a l h1 h2
    refine ⟨vals, n, hk _ _ (fun q => hL (q ▸ List.mem_of_getElem? h1)) g, r.mono ⟨[], by simp⟩ fun a vals n e => hk _ _ (fun q => ht vals n (q ▸ e)) e⟩⟩

/-- a new list in the store -/
theorem St.pushList {ρ : List Addr} {σ : Store} {h : Heap} (S : St T ρ σ h) {vals : List Value} {l : List V} (n : Nat) (r : RvL T ρ h vals l) :
    St T (ρ ++ [h.objs.size]) (σ ++ [l]) (h.push (listOf vals.toArray n)) := by
  have up : ∀ a vs m, h.get? a = some { cls := .type "tuple", data := .seq vs m } → (h.push (listOf vals.toArray n)).get? a = some { cls := .type "tuple", data := .seq vs m } := fun a vs m e => Heap.get?_push_of_some _ e
  refine ⟨by simp [S.len], ?_, fun k a l' h1 h2 => ?_⟩
  · rw [List.nodup_append]
    refine ⟨S.nd, by simp, fun a ha b hb e => ?_⟩
    obtain ⟨vs, m, g⟩ := S.isList ha
    rw [List.mem_singleton.mp hb] at e
    subst e
    exact absurd (Heap.lt_size g) (Nat.lt_irrefl _)
  · by_cases hk : k < ρ.length
    · rw [List.getElem?_append_left hk] at h1
      rw [List.getElem?_append_left (S.len ▸ hk)] at h2
      obtain ⟨vs, m, g, r'⟩ := S.lst k a l' h1 h2
      exact ⟨vs, m, Heap.get?_push_of_some _ g, r'.mono ⟨_, rfl⟩ up⟩
    · have hk' : k = ρ.length := by
        have := (List.getElem?_eq_some_iff.mp h1).1
        rw [List.length_append, List.length_singleton] at this
        omega
      subst hk'
      rw [List.getElem?_append_right (Nat.le_refl _)] at h1
      rw [S.len, List.getElem?_append_right (Nat.le_refl _)] at h2
      simp at h1 h2
      subst h1 h2
      exact ⟨vals, n, Heap.get?_push_size _ rfl, r.mono ⟨_, rfl⟩ up⟩
theorem Grow.pushList (ρ : List Addr) (h : Heap) (o : Obj) : Grow ρ h (ρ ++ [h.objs.size]) (h.push o) :=
  .mk' (fun a ha => by
    rw [List.mem_singleton.mp ha]
    cases q : h.get? h.objs.size with
    | none => rfl
    | some o => exact absurd (Heap.lt_size q) (Nat.lt_irrefl _)) (fun _ _ e _ => Heap.get?_push_of_some o e) fun _ o' e => ⟨o', Heap.get?_push_of_some o e⟩

/-- a list of the store is changed -/
theorem St.set {ρ : List Addr} {σ : Store} {h h' : Heap} (S : St T ρ σ h) {k : Nat} {a : Addr} {vals : List Value} {l : List V} {n : Nat} (hk : ρ[k]? = some a) (hs : Heap.SameBut a h h') (hg : h'.get? a = some (listOf vals.toArray n)) (r : RvL T ρ h vals l) :
    St T ρ (σ.set k l) h' := by
  have hm := List.mem_of_getElem? hk
  have up : ∀ b vs m, h.get? b = some { cls := .type "tuple", data := .seq vs m } → h'.get? b = some { cls := .type "tuple", data := .seq vs m } := fun b vs m e => (hs.2 b fun q => S.tupOff e (q ▸ hm)).trans e
  refine ⟨by simp [S.len], S.nd, fun j b l' h1 h2 => ?_⟩
  by_cases hj : j = k
  · subst hj
    rw [hk] at h1; cases h1
    have hlt : j < σ.length := S.len ▸ (List.getElem?_eq_some_iff.mp hk).1
    rw [List.getElem?_set_self hlt] at h2
    cases h2
    exact ⟨vals, n, hg, r.mono ⟨[], by simp⟩ up⟩
  · rw [List.getElem?_set_ne (Ne.symm hj)] at h2
    obtain ⟨vs, m, g, r'⟩ := S.lst j b l' h1 h2
    have hne : b ≠ a := by
      rintro rfl
      have h3 := (List.getElem?_eq_some_iff.mp h1)
      have h4 := (List.getElem?_eq_some_iff.mp hk)
      exact hj ((List.getElem_inj S.nd).mp (h3.2.trans h4.2.symm))
    exact ⟨vs, m, (hs.2 b hne).trans g, r'.mono ⟨[], by simp⟩ up⟩
theorem Grow.set {ρ : List Addr} {h h' : Heap} {a : Addr} (ha : a ∈ ρ) (hs : Heap.SameBut a h h') {o : Obj} (hg : h'.get? a = some o) : Grow ρ h ρ h' :=
  .mk0 (fun b _ e hb => (hs.2 b fun q => hb (q ▸ ha)).trans e) fun b o' e => by
    by_cases q : b = a
    · exact ⟨o, q ▸ hg⟩
    · exact ⟨o', (hs.2 b q).trans e⟩
theorem Grow.ns {ρ ρ' : List Addr} {σ : Store} {h h' : Heap} (x : Grow ρ h ρ' h') (S : St T ρ σ h) {L : Addr} {m : Str → Option Value} (n : h.Ns L m) : h'.Ns L m := by
  obtain ⟨o, es, ep, ho, hd, hp, hf⟩ := n
  obtain ⟨sl, e, _⟩ := x.keep L o ho (S.off ho fun its n q => by rw [q] at hd; cases hd)
  exact ⟨_, es, ep, e, hd, hp, hf⟩
theorem Grow.cell {ρ ρ' : List Addr} {σ : Store} {h h' : Heap} (x : Grow ρ h ρ' h') (S : St T ρ σ h) {L : Addr} {v : Option Value} (n : h.IsCell L v) : h'.IsCell L v := by
  obtain ⟨o, ho, hd⟩ := n
  exact ⟨o, x.exact ho (S.off ho fun its n q => by rw [q] at hd; cases hd) (fun es ep q => by rw [q] at hd; cases hd), hd⟩
theorem Ns.offL {ρ : List Addr} {σ : Store} {h : Heap} (S : St T ρ σ h) {L : Addr} {m : Str → Option Value} (n : h.Ns L m) : L ∉ ρ := by
  obtain ⟨o, es, ep, ho, hd, hp, hf⟩ := n
  exact S.off ho fun its n q => by rw [q] at hd; cases hd
theorem Ns.noTup {h : Heap} {L : Addr} {m : Str → Option Value} (n : h.Ns L m) : ∀ vals n, h.get? L ≠ some { cls := .type "tuple", data := .seq vals n } := by
  obtain ⟨o, es, ep, ho, hd, hp, hf⟩ := n
  intro vals n q
  rw [ho] at q; cases q; cases hd
theorem Cell.offL {ρ : List Addr} {σ : Store} {h : Heap} (S : St T ρ σ h) {L : Addr} {v : Option Value} (n : h.IsCell L v) : L ∉ ρ := by
  obtain ⟨o, ho, hd⟩ := n
  exact S.off ho fun its n q => by rw [q] at hd; cases hd
theorem Cell.noTup {h : Heap} {L : Addr} {v : Option Value} (n : h.IsCell L v) : ∀ vals n, h.get? L ≠ some { cls := .type "tuple", data := .seq vals n } := by
  obtain ⟨o, ho, hd⟩ := n
  intro vals n q
  rw [ho] at q; cases q; cases hd
end Mine
end
section
open PySem
set_option linter.unusedVariables false
set_option autoImplicit false
set_option genSizeOf false
set_option genInjectivity false
namespace Mine

inductive Op | add | sub | mul | fdiv | mod | pow
inductive Cm | eq | ne | lt | ge | gt | is | isnot | in_
inductive Bi | len | list | tuple | int | max | min | range
inductive Me | append | extend | pop

inductive Tgt
  | one (x : Nat) (p : Pos)
  | many (xs : List (Nat × Pos)) (k : Nat) (p : Pos)

structure Sc where
  loc : List Nat
  cel : List Nat
  glb : List Nat

mutual
inductive IE
  | none (k : Nat) (p : Pos)
  | bool (b : Bool) (k : Nat) (p : Pos)
  | int (i : Int) (k : Nat) (p : Pos)
  | str (c : Nat) (k : Nat) (p : Pos)
  | lv (x : Nat) (p : Pos)
  | gi (x : Nat) (p : Pos)
  | tup (es : IEs) (k : Nat) (p : Pos)
  | lst (es : IEs) (p : Pos)
  | idx (e i : IE) (p : Pos)
  | slc (e : IE) (lo hi : IEo) (ps p : Pos)
  | rev (e st : IE) (ps p : Pos)
  | bin (o : Op) (a b : IE) (p : Pos)
  | cmp (o : Cm) (a b : IE) (p : Pos)
  | and (es : IEs) (p : Pos)
  | or (es : IEs) (p : Pos)
  | not (e : IE) (p : Pos)
  | neg (e : IE) (p : Pos)
  | ite (t a b : IE) (p : Pos)
  | call (f : Nat) (fp : Pos) (es : IEs) (p : Pos)
  | bcall (b : Bi) (x : Nat) (fp : Pos) (es : IEs) (p : Pos)
  | meth (o : IE) (m : Me) (ap : Pos) (es : IEs) (p : Pos)
  | comp (elt : IE) (t : Tgt) (it : IE) (cond : IEo) (nms : List (Nat × NameKind)) (csc : Sc) (free : List Nat) (p : Pos)
  | hook (k : Nat) (x : Nat) (a : Nat) (p1 p2 : Pos)
  | opq (e : Expr)
inductive IEs
  | nil
  | cons (e : IE) (r : IEs)
inductive IEo
  | no
  | yes (e : IE)
end

noncomputable def safeB : Bi → Bool
  | .max => false
  | .min => false
  | _ => true
noncomputable def oneT : Tgt → Bool
  | .one _ _ => true
  | .many _ _ _ => false
noncomputable def isLv : IE → Bool
  | .lv _ _ => true
  | _ => false

inductive It
  | over (e : IE)
  | range (x : Nat) (rp : Pos) (e : IE) (p : Pos)

mutual
inductive IS
  | asg (x : Nat) (px : Pos) (e : IE) (p : Pos)
  | asgT (xs : List (Nat × Pos)) (k : Nat) (pt : Pos) (e : IE) (p : Pos)
  | asgI (o i : IE) (pt : Pos) (e : IE) (p : Pos)
  | expr (e : IE) (p : Pos)
  | exprC (f : Nat) (fp : Pos) (es : IEs) (pc p : Pos)
  | ifS (t : IE) (a b : ISs) (p : Pos)
  | forS (t : Tgt) (it : It) (b : ISs) (p : Pos)
  | whileS (t : IE) (b : ISs) (p : Pos)
  | ret (e : IE) (p : Pos)
  | raise (c : Nat) (cp : Pos) (e : IE) (sp : IEo) (pc p : Pos)
  | opq (s : Stmt)
inductive ISs
  | nil
  | cons (s : IS) (r : ISs)
end

set_option genInjectivity true
inductive Res
  | ret (v : V)
  | exc (m s : V)
noncomputable abbrev Psi := Nat → List V → Store → Option (Res × Store)
noncomputable abbrev Env1 := List (Nat × V)

structure Cfg where
  Ψ : Psi
  gi : Nat → Option Int
  H : Nat → Nat → Option V
  bi : Bi → Nat → Bool
  rz : Nat → Bool
  n : Nat
  ob : Nat → Option (List Int)
  mm : Bool
  inS : Nat → Nat → Option Bool
  sc : Sc

noncomputable def smallI (i : Int) : Bool := Nat.blt i.natAbs 18446744073709551616
noncomputable def lim : Nat := 1000000
noncomputable def okL {α : Type} (l : List α) : Bool := Nat.ble l.length lim
noncomputable def FU : Nat := 100000

noncomputable def truth : V → Option Bool
  | .none => some false
  | .bool b => some b
  | .int i => some (!decide (i = 0))
  | _ => none

noncomputable def mkTup (l : List V) (σ : Store) : Option (V × Store) := if okL l then some (.tup l, σ) else none
noncomputable def mkLst (l : List V) (σ : Store) : Option (V × Store) := if okL l then some (.ref σ.length, σ ++ [l]) else none

noncomputable def int2 {α : Type} (a b : V) (f : Int → Int → Option α) : Option α := match a with
  | .int x => match b with
    | .int y => f x y
    | _ => none
  | _ => none
noncomputable def arg1 {α : Type} (vs : List V) (f : V → Option α) : Option α := match vs with
  | [v] => f v
  | _ => none
noncomputable def arg2 {α : Type} (vs : List V) (f : V → V → Option α) : Option α := match vs with
  | [a, b] => f a b
  | _ => none
theorem int2_inv {α : Type} {a b : V} {f : Int → Int → Option α} {r : α} (e : int2 a b f = some r) : ∃ x y, a = .int x ∧ b = .int y ∧ f x y = some r := by
  cases a with
  | int x => cases b with
    | int y => exact ⟨x, y, rfl, rfl, e⟩
    | _ => cases e
  | _ => cases e
theorem arg1_inv {α : Type} {vs : List V} {f : V → Option α} {r : α} (e : arg1 vs f = some r) : ∃ v, vs = [v] ∧ f v = some r := by
  match vs, e with
  | [v], e => exact ⟨v, rfl, e⟩
  | [], e => cases e
  | _ :: _ :: _, e => cases e
theorem arg2_inv {α : Type} {vs : List V} {f : V → V → Option α} {r : α} (e : arg2 vs f = some r) : ∃ a b, vs = [a, b] ∧ f a b = some r := by
  match vs, e with
  | [a, b], e => exact ⟨a, b, rfl, e⟩
  | [], e => cases e
  | [_], e => cases e
  | _ :: _ :: _ :: _, e => cases e

noncomputable def binV (o : Op) (a b : V) (σ : Store) : Option (V × Store) := match o with
  | .add => match a with
    | .tup l => (match b with
      | .tup l' => mkTup (l ++ l') σ
      | _ => none)
    | .ref i => (match b with
      | .ref j => (match σ[i]?, σ[j]? with
        | some a, some b => mkLst (a ++ b) σ
        | _, _ => none)
      | _ => none)
    | _ => int2 a b fun a b => some (.int (a + b), σ)
  | .sub => int2 a b fun a b => some (.int (a - b), σ)
  | .mul => match a with
    | .ref i => (match b with
      | .int n => (match σ[i]? with
        | some a => if decide (0 ≤ n) && decide (n ≤ 100) then mkLst (List.replicate n.toNat a).flatten σ else none
        | none => none)
      | _ => none)
    | _ => int2 a b fun a b => if smallI a || smallI b then some (.int (a * b), σ) else none
  | .fdiv => int2 a b fun a b => if decide (b = 0) || !Nat.blt b.natAbs 1073741824 then none else some (.int (Int.fdiv a b), σ)
  | .mod => int2 a b fun a b => if decide (b = 0) then none else some (.int (Int.fmod a b), σ)
  | .pow => int2 a b fun a b => if decide (0 ≤ b) && decide (b ≤ 100) && smallI a then some (.int (a ^ b.toNat), σ) else none

/-- two values of no depth compared -/
noncomputable def eq0 : V → V → Option Bool
  | .bool a, .bool b => some (a == b)
  | .int a, .int b => some (decide (a = b))
  | .str a, .str b => some (Nat.beq a b)
  | _, _ => none
noncomputable def eqL : List V → List V → Option Bool
  | [], [] => some true
  | x :: xs, y :: ys => match eq0 x y with
    | some true => eqL xs ys
    | some false => some false
    | none => none
  | _, _ => some false
noncomputable def allEq0 : List V → List V → Bool
  | a :: la, b :: lb => (eq0 a b).isSome && allEq0 la lb
  | _, _ => true
noncomputable def eqV : V → V → Store → Option Bool
  | .tup a, .tup b, _ => if Nat.beq a.length b.length && allEq0 a b then eqL a b else none
  | .ref i, .ref j, σ => match σ[i]?, σ[j]? with
    | some a, some b => match b with
      | [] => some a.isEmpty
      | _ :: _ => none
    | _, _ => none
  | .none, .tup _, _ => some false
  | .tup _, .none, _ => some false
  | .none, .none, _ => some true
  | a, b, _ => eq0 a b

noncomputable def inL (x : V) (l : List V) : Option Bool := if l.all (fun y => (eq0 y x).isSome) then some (l.any fun y => (eq0 y x).getD false) else none

noncomputable def isNone : V → Option Bool
  | .none => some true
  | .bool _ => some false
  | .tup _ => some false
  | .ref _ => some false
  | _ => none

noncomputable def cmpV (inS : Nat → Nat → Option Bool) (o : Cm) (a b : V) (σ : Store) : Option Bool := match o with
  | .eq => eqV a b σ
  | .ne => (eqV a b σ).map (!·)
  | .lt => int2 a b fun a b => some (decide (a < b))
  | .ge => int2 a b fun a b => some (decide (a ≥ b))
  | .gt => int2 a b fun a b => some (decide (a > b))
  | .is => match b with
    | .none => isNone a
    | _ => none
  | .isnot => match b with
    | .none => (isNone a).map (!·)
    | _ => none
  | .in_ => match b with
    | .tup l => inL a l
    | .str j => (match a with
      | .str i => inS i j
      | _ => none)
    | _ => none

noncomputable def itemsOf (ob : Nat → Option (List Int)) : V → Store → Option (List V)
  | .tup l, _ => some l
  | .ref k, σ => σ[k]?
  | .obj a, _ => (ob a).map fun l => l.map V.int
  | _, _ => none

noncomputable def idxV (ob : Nat → Option (List Int)) (o i : V) (σ : Store) : Option V := match i with
  | .int n => if decide (0 ≤ n) && decide (n ≤ 1000000) then match itemsOf ob o σ with
      | some l => l[n.toNat]?
      | none => none
    else none
  | _ => none

noncomputable def natOf : Option V → Nat → Option Nat
  | none, d => some d
  | some (.int n), _ => if decide (0 ≤ n) then some n.toNat else none
  | some _, _ => none

noncomputable def slcV (o : V) (lo hi : Option V) (σ : Store) : Option (V × Store) := match o with
  | .ref k => match σ[k]? with
    | some l => if okL l then match natOf lo 0, natOf hi l.length with
      | some a, some b => some (.ref σ.length, σ ++ [(l.take b).drop a])
      | _, _ => none
      else none
    | none => none
  | .tup l => if okL l then match natOf lo 0, natOf hi l.length with
      | some a, some b => if Nat.ble 1 a && Nat.ble a b && Nat.ble b l.length then some (.tup ((l.take b).drop a), σ) else none
      | _, _ => none
      else none
  | _ => none

noncomputable def revV (o st : V) (σ : Store) : Option (V × Store) := match o, st with
  | .ref k, .int (-1) => match σ[k]? with
    | some l => if okL l then some (.ref σ.length, σ ++ [l.reverse]) else none
    | none => none
  | _, _ => none

noncomputable def bcallV (ob : Nat → Option (List Int)) (b : Bi) (vs : List V) (σ : Store) : Option (V × Store) := match b with
  | .len => arg1 vs fun v => match itemsOf ob v σ with
    | some l => if okL l then some (.int l.length, σ) else none
    | none => none
  | .list => arg1 vs fun v => match itemsOf (fun _ => none) v σ with
    | some l => mkLst l σ
    | none => none
  | .tuple => arg1 vs fun v => match v with
    | .tup l => some (.tup l, σ)
    | .ref k => (match σ[k]? with
      | some l => mkTup l σ
      | none => none)
    | _ => none
  | .int => arg1 vs fun v => match v with
    | .int i => some (.int i, σ)
    | .bool b => some (.int (if b then 1 else 0), σ)
    | _ => none
  | .max => arg2 vs fun a b => int2 a b fun a b => some (.int (if b > a then b else a), σ)
  | .min => arg2 vs fun a b => int2 a b fun a b => some (.int (if b < a then b else a), σ)
  | .range => none

noncomputable def methV (m : Me) (o : V) (vs : List V) (σ : Store) : Option (V × Store) := match o with
  | .ref k => match m with
    | .append => arg1 vs fun v => match σ[k]? with
      | some l => if okL l then some (.none, σ.set k (l ++ [v])) else none
      | none => none
    | .extend => arg1 vs fun v => match v with
      | .ref j => (match σ[k]?, σ[j]? with
        | some l, some l2 => if okL (l ++ l2) then some (.none, σ.set k (l ++ l2)) else none
        | _, _ => none)
      | _ => none
    | .pop => match vs with
      | [] => (match σ[k]? with
        | some l => if okL l then match l.getLast? with
          | some v => some (v, σ.set k l.dropLast)
          | none => none
          else none
        | none => none)
      | _ => none
  | _ => none

inductive Src
  | tup (l : List V)
  | lst (k : Nat)
  | rng (n : Nat)
noncomputable def srcOf : V → Option Src
  | .tup l => some (.tup l)
  | .ref k => some (.lst k)
  | _ => none
noncomputable def srcOk (mm : Bool) : Src → Bool
  | .lst _ => true
  | _ => mm
/-- the item at a place: none: no source; some none: the end -/
noncomputable def srcAt : Src → Store → Nat → Option (Option V)
  | .tup l, _, i => some l[i]?
  | .lst k, σ, i => match σ[k]? with
    | some l => some l[i]?
    | none => none
  | .rng n, _, i => some (if Nat.blt i n then some (.int i) else none)

noncomputable def store (sc : Sc) (x : Nat) (v : V) (γ : Env1) : Option Env1 := if sc.loc.contains x || sc.cel.contains x then some ((x, v) :: γ.filter fun q => !(Nat.beq q.1 x)) else none
noncomputable def storeL (sc : Sc) : List (Nat × Pos) → List V → Env1 → Option Env1
  | [], [], γ => some γ
  | x :: xs, v :: vs, γ => (store sc x.1 v γ).bind fun γ' => storeL sc xs vs γ'
  | _, _, _ => none
noncomputable def bindT (sc : Sc) (t : Tgt) (v : V) (γ : Env1) : Option Env1 := match t, v with
  | .one x _, v => store sc x v γ
  | .many xs _ _, .tup l => storeL sc xs l γ
  | _, _ => none

noncomputable def isFree : Option NameKind → Bool
  | some .free => true
  | _ => false
noncomputable def isLoc : Option NameKind → Bool
  | some .local => true
  | _ => false
noncomputable def isGlb : Option NameKind → Bool
  | some .globalImplicit => true
  | _ => false
noncomputable def lkN (x : Nat) : List (Nat × NameKind) → Option NameKind
  | [] => none
  | (y, k) :: r => if Nat.beq x y then some k else lkN x r
noncomputable def memN (x : Nat) : List Nat → Bool
  | [] => false
  | y :: r => Nat.beq x y || memN x r
noncomputable def distinct : List Nat → Bool
  | [] => true
  | x :: r => !(memN x r) && distinct r
/-- the scope of a comprehension is well told -/
noncomputable def compWf (n : Nat) (sc : Sc) (nms : List (Nat × NameKind)) (csc : Sc) (free : List Nat) : Bool :=
  nms.all (fun q => Nat.blt q.1 n && (isFree (some q.2) || isLoc (some q.2) || isGlb (some q.2)) && (!(isFree (some q.2)) || sc.cel.contains q.1)) && distinct (nms.map fun q => q.1)
    && csc.loc.all (fun x => isLoc (lkN x nms)) && csc.cel.all (fun x => isFree (lkN x nms)) && csc.glb.all (fun x => isGlb (lkN x nms)) && free.all (fun x => csc.cel.contains x)

noncomputable def anyL {α : Type} (f : α → Bool) : List α → Bool
  | [] => false
  | x :: r => f x || anyL f r
mutual
/-- surely not a constant alone -/
noncomputable def hardE (n : Nat) : Nat → IE → Bool
  | _, .lst _ _ => true
  | _, .call _ _ _ _ => true
  | _, .bcall _ _ _ _ _ => true
  | _, .comp _ _ _ _ _ _ _ _ => true
  | _, .lv x _ => Nat.blt x n
  | k + 1, .idx e _ _ => hardE n k e
  | k + 1, .tup es _ _ => hardEs n k es
  | _, _ => false
noncomputable def hardEs (n : Nat) : Nat → IEs → Bool
  | _, .nil => false
  | k, .cons e r => hardE n k e || hardEs n k r
end
noncomputable def asgTok (n : Nat) (xs : List (Nat × Pos)) (e : IE) : Bool := distinct (xs.map fun q => q.1) && (match e with | .tup es _ _ => hardEs n 8 es | _ => true)
noncomputable def asgOk (sc : Sc) (x : Nat) (px : Pos) (e : IE) : Bool := match e with
  | .comp _ _ _ _ nms _ _ cp => sc.loc.contains x && Nat.beq px.line cp.line && !(memN x (nms.map fun q => q.1))
  | _ => true
noncomputable def isComp : IE → Bool
  | .comp _ _ _ _ _ _ _ _ => true
  | _ => false

noncomputable def loopC (body : V → Store → Option (Option V × Store)) (src : Src) : Nat → Nat → Store → Option (List V × Store)
  | 0, _, _ => none
  | n + 1, i, σ => match srcAt src σ i with
    | none => none
    | some none => some ([], σ)
    | some (some x) => (body x σ).bind fun r => (loopC body src n (i + 1) r.2).map fun q => ((match r.1 with | some v => v :: q.1 | none => q.1), q.2)

section
variable (C : Cfg)
mutual
noncomputable def evE (sc : Sc) : IE → Env1 → Store → Option (V × Store)
  | .none _ _, _, σ => some (.none, σ)
  | .bool b _ _, _, σ => some (.bool b, σ)
  | .int i _ _, _, σ => some (.int i, σ)
  | .str c _ _, _, σ => if Nat.blt c C.n then some (.str c, σ) else none
  | .lv x _, γ, σ => (γ.lookup x).map fun v => (v, σ)
  | .gi x _, _, σ => if sc.glb.contains x then (C.gi x).map fun i => (.int i, σ) else none
  | .tup es _ _, γ, σ => (evEs sc es γ σ).bind fun r => mkTup r.1 r.2
  | .lst es _, γ, σ => (evEs sc es γ σ).bind fun r => mkLst r.1 r.2
  | .idx e i _, γ, σ => (evE sc e γ σ).bind fun a => (evE sc i γ a.2).bind fun b => (idxV C.ob a.1 b.1 b.2).map fun v => (v, b.2)
  | .slc e lo hi _ _, γ, σ => (evE sc e γ σ).bind fun a => (evO sc lo γ a.2).bind fun b => (evO sc hi γ b.2).bind fun c => slcV a.1 b.1 c.1 c.2
  | .rev e st _ _, γ, σ => (evE sc e γ σ).bind fun a => (evE sc st γ a.2).bind fun b => revV a.1 b.1 b.2
  | .bin o a b _, γ, σ => (evE sc a γ σ).bind fun x => (evE sc b γ x.2).bind fun y => binV o x.1 y.1 y.2
  | .cmp o a b _, γ, σ => (evE sc a γ σ).bind fun x => (evE sc b γ x.2).bind fun y => (cmpV C.inS o x.1 y.1 y.2).map fun c => (.bool c, y.2)
  | .and es _, γ, σ => evAnd sc es γ σ
  | .or es _, γ, σ => evOr sc es γ σ
  | .not e _, γ, σ => (evE sc e γ σ).bind fun a => (truth a.1).map fun b => (.bool !b, a.2)
  | .neg e _, γ, σ => (evE sc e γ σ).bind fun a => match a.1 with
    | .int i => some (.int (-i), a.2)
    | _ => none
  | .ite t a b _, γ, σ => (evE sc t γ σ).bind fun x => match truth x.1 with
    | some true => evE sc a γ x.2
    | some false => evE sc b γ x.2
    | none => none
  | .call f _ es _, γ, σ => if sc.glb.contains f then (evEs sc es γ σ).bind fun r => match C.Ψ f r.1 r.2 with
      | some (.ret v, σ') => some (v, σ')
      | _ => none
    else none
  | .bcall b x _ es _, γ, σ => if sc.glb.contains x && C.bi b x && (C.mm || safeB b) then (evEs sc es γ σ).bind fun r => bcallV C.ob b r.1 r.2 else none
  | .meth o m ap es p, γ, σ => if isLv o && Nat.beq ap.endLine p.line then (evE sc o γ σ).bind fun a => (evEs sc es γ a.2).bind fun r => methV m a.1 r.1 r.2 else none
  | .comp elt t it .no nms csc free _, γ, σ => if compWf C.n sc nms csc free && (C.mm || oneT t) then (evE sc it γ σ).bind fun a => (srcOf a.1).bind fun src => if srcOk C.mm src then
      (loopC (fun x σ₁ => (bindT ⟨csc.loc, [], csc.glb⟩ t x (γ.filter fun q => free.contains q.1)).bind fun γ' => (evE csc elt γ' σ₁).map fun r => (some r.1, r.2)) src FU 0 a.2).bind fun r => mkLst r.1 r.2
      else none
    else none
  | .comp elt t it (.yes c) nms csc free _, γ, σ => if compWf C.n sc nms csc free && (C.mm || oneT t) then (evE sc it γ σ).bind fun a => (srcOf a.1).bind fun src => if srcOk C.mm src then
      (loopC (fun x σ₁ => (bindT ⟨csc.loc, [], csc.glb⟩ t x (γ.filter fun q => free.contains q.1)).bind fun γ' => (evE csc c γ' σ₁).bind fun b => match truth b.1 with
        | some true => (evE csc elt γ' b.2).map fun r => (some r.1, r.2)
        | some false => some (none, b.2)
        | none => none) src FU 0 a.2).bind fun r => mkLst r.1 r.2
      else none
    else none
  | .hook _ x y _ _, γ, σ => match γ.lookup x with
    | some (.obj a) => (C.H y a).map fun v => (v, σ)
    | _ => none
  | .opq _, _, _ => none
noncomputable def evEs (sc : Sc) : IEs → Env1 → Store → Option (List V × Store)
  | .nil, _, σ => some ([], σ)
  | .cons e r, γ, σ => (evE sc e γ σ).bind fun a => (evEs sc r γ a.2).map fun q => (a.1 :: q.1, q.2)
noncomputable def evO (sc : Sc) : IEo → Env1 → Store → Option (Option V × Store)
  | .no, _, σ => some (none, σ)
  | .yes e, γ, σ => (evE sc e γ σ).map fun a => (some a.1, a.2)
noncomputable def evAnd (sc : Sc) : IEs → Env1 → Store → Option (V × Store)
  | .nil, _, _ => none
  | .cons e .nil, γ, σ => evE sc e γ σ
  | .cons e r, γ, σ => (evE sc e γ σ).bind fun a => match truth a.1 with
    | some true => evAnd sc r γ a.2
    | some false => some a
    | none => none
noncomputable def evOr (sc : Sc) : IEs → Env1 → Store → Option (V × Store)
  | .nil, _, _ => none
  | .cons e .nil, γ, σ => evE sc e γ σ
  | .cons e r, γ, σ => (evE sc e γ σ).bind fun a => match truth a.1 with
    | some true => some a
    | some false => evOr sc r γ a.2
    | none => none
end

inductive Out
  | next
  | brk
  | cont
  | ret (v : V)
  | exc (m s : V)

noncomputable abbrev ExR := Option (Out × Env1 × Store)
noncomputable def loopF (body : V → Env1 → Store → ExR) (src : Src) : Nat → Nat → Env1 → Store → ExR
  | 0, _, _, _ => none
  | n + 1, i, γ, σ => match srcAt src σ i with
    | none => none
    | some none => some (.next, γ, σ)
    | some (some x) => (body x γ σ).bind fun r => match r.1 with
      | .next => loopF body src n (i + 1) r.2.1 r.2.2
      | .cont => loopF body src n (i + 1) r.2.1 r.2.2
      | .brk => some (.next, r.2.1, r.2.2)
      | o => some (o, r.2.1, r.2.2)
noncomputable def loopW (test : Env1 → Store → Option (Bool × Store)) (body : Env1 → Store → ExR) : Nat → Env1 → Store → ExR
  | 0, _, _ => none
  | n + 1, γ, σ => (test γ σ).bind fun t => if t.1 then (body γ t.2).bind fun r => match r.1 with
      | .next => loopW test body n r.2.1 r.2.2
      | .cont => loopW test body n r.2.1 r.2.2
      | .brk => some (.next, r.2.1, r.2.2)
      | o => some (o, r.2.1, r.2.2)
    else some (.next, γ, t.2)

noncomputable def evT (sc : Sc) (e : IE) (γ : Env1) (σ : Store) : Option (Bool × Store) := (evE C sc e γ σ).bind fun a => (truth a.1).map fun b => (b, a.2)

noncomputable def itSrc (sc : Sc) : It → Env1 → Store → Option (Src × Store)
  | .over e, γ, σ => (evE C sc e γ σ).bind fun a => (srcOf a.1).map fun s => (s, a.2)
  | .range x _ e _, γ, σ => if sc.glb.contains x && C.bi .range x then (evE C sc e γ σ).bind fun a => match a.1 with
    | .int n => if decide (0 ≤ n) && decide (n ≤ 1000000) then some (.rng n.toNat, a.2) else none
    | _ => none
    else none

mutual
noncomputable def exS : IS → Env1 → Store → ExR
  | .asg x px e _, γ, σ => if asgOk C.sc x px e then (evE C C.sc e γ σ).bind fun a => (store C.sc x a.1 γ).map fun γ' => (.next, γ', a.2) else none
  | .asgT xs _ _ e _, γ, σ => if asgTok C.n xs e && C.mm then (evE C C.sc e γ σ).bind fun a => match a.1 with
    | .tup l => (storeL C.sc xs l γ).map fun γ' => (.next, γ', a.2)
    | _ => none
    else none
  | .asgI o i _ e _, γ, σ => (evE C C.sc e γ σ).bind fun v => (evE C C.sc o γ v.2).bind fun a => (evE C C.sc i γ a.2).bind fun b => match a.1, b.1 with
    | .ref k, .int n => match b.2[k]? with
      | some l => if decide (0 ≤ n) && decide (n.toNat < l.length) && okL l then some (.next, γ, b.2.set k (l.set n.toNat v.1)) else none
      | none => none
    | _, _ => none
  | .expr e _, γ, σ => if isComp e then none else (evE C C.sc e γ σ).bind fun a => match a.1 with
    | .none => some (.next, γ, a.2)
    | _ => none
  | .exprC f _ es _ _, γ, σ => if C.sc.glb.contains f then (evEs C C.sc es γ σ).bind fun r => match C.Ψ f r.1 r.2 with
      | some (.ret .none, σ') => some (.next, γ, σ')
      | some (.exc m s, σ') => some (.exc m s, γ, σ')
      | _ => none
    else none
  | .ifS t a b _, γ, σ => (evT C C.sc t γ σ).bind fun c => if c.1 then exSs a γ c.2 else exSs b γ c.2
  | .forS t it b _, γ, σ => if C.mm then (itSrc C C.sc it γ σ).bind fun s => loopF (fun x γ₁ σ₁ => (bindT C.sc t x γ₁).bind fun γ' => exSs b γ' σ₁) s.1 FU 0 γ s.2 else none
  | .whileS t b _, γ, σ => loopW (evT C C.sc t) (exSs b) FU γ σ
  | .ret e _, γ, σ => (evE C C.sc e γ σ).map fun a => (.ret a.1, γ, a.2)
  | .raise c _ e sp _ _, γ, σ => if C.sc.glb.contains c && C.rz c && C.mm then (evE C C.sc e γ σ).bind fun a => (evO C C.sc sp γ a.2).map fun b => (.exc a.1 (b.1.getD (.int 0)), γ, b.2) else none
  | .opq _, _, _ => none
noncomputable def exSs : ISs → Env1 → Store → ExR
  | .nil, γ, σ => some (.next, γ, σ)
  | .cons s r, γ, σ => (exS s γ σ).bind fun q => match q.1 with
    | .next => exSs r q.2.1 q.2.2
    | o => some (o, q.2.1, q.2.2)
end
end

structure Fn where
  params : List Nat
  sc : Sc
  body : ISs

structure Gx where
  gi : Nat → Option Int
  H : Nat → Nat → Option V
  bi : Bi → Nat → Bool
  rz : Nat → Bool
  n : Nat
  ob : Nat → Option (List Int)
noncomputable def Gx.cfg (G : Gx) (Ψ : Psi) (sc : Sc) : Cfg := ⟨Ψ, G.gi, G.H, G.bi, G.rz, G.n, G.ob, true, fun _ _ => none, sc⟩

noncomputable def callFn (G : Gx) (Ψ : Psi) (fn : Fn) (args : List V) (σ : Store) : Option (Res × Store) :=
  if Nat.beq fn.params.length args.length then
    (exSs (G.cfg Ψ fn.sc) fn.body ((fn.params.zip args).reverse) σ).bind fun r => match r.1 with
      | .ret v => some (.ret v, r.2.2)
      | .next => some (.ret .none, r.2.2)
      | .exc m s => some (.exc m s, r.2.2)
      | _ => none
  else none
end Mine
end
section
open PySem
set_option autoImplicit false
set_option linter.unusedVariables false
namespace Mine
section
variable {C : Cfg} {sc : Sc} {γ : Env1} {σ : Store}
theorem evE_none {z1 : _} {z2 : _} : evE C sc (.none z1 z2) γ σ = (some (.none, σ)) := rfl
theorem evE_bool {b : _} {z1 : _} {z2 : _} : evE C sc (.bool b z1 z2) γ σ = (some (.bool b, σ)) := rfl
theorem evE_int {i : _} {z1 : _} {z2 : _} : evE C sc (.int i z1 z2) γ σ = (some (.int i, σ)) := rfl
theorem evE_str {c : _} {z1 : _} {z2 : _} : evE C sc (.str c z1 z2) γ σ = (if Nat.blt c C.n then some (.str c, σ) else none) := rfl
theorem evE_lv {x : _} {z1 : _} : evE C sc (.lv x z1) γ σ = ((γ.lookup x).map fun v => (v, σ)) := rfl
theorem evE_gi {x : _} {z1 : _} : evE C sc (.gi x z1) γ σ = (if sc.glb.contains x then (C.gi x).map fun i => (.int i, σ) else none) := rfl
theorem evE_tup {es : _} {z1 : _} {z2 : _} : evE C sc (.tup es z1 z2) γ σ = ((evEs C sc es γ σ).bind fun r => mkTup r.1 r.2) := rfl
theorem evE_lst {es : _} {z1 : _} : evE C sc (.lst es z1) γ σ = ((evEs C sc es γ σ).bind fun r => mkLst r.1 r.2) := rfl
theorem evE_idx {e : _} {i : _} {z1 : _} : evE C sc (.idx e i z1) γ σ = ((evE C sc e γ σ).bind fun a => (evE C sc i γ a.2).bind fun b => (idxV C.ob a.1 b.1 b.2).map fun v => (v, b.2)) := rfl
theorem evE_slc {e : _} {lo : _} {hi : _} {z1 : _} {z2 : _} : evE C sc (.slc e lo hi z1 z2) γ σ = ((evE C sc e γ σ).bind fun a => (evO C sc lo γ a.2).bind fun b => (evO C sc hi γ b.2).bind fun c => slcV a.1 b.1 c.1 c.2) := rfl
theorem evE_rev {e : _} {st : _} {z1 : _} {z2 : _} : evE C sc (.rev e st z1 z2) γ σ = ((evE C sc e γ σ).bind fun a => (evE C sc st γ a.2).bind fun b => revV a.1 b.1 b.2) := rfl
theorem evE_bin {o : _} {a : _} {b : _} {z1 : _} : evE C sc (.bin o a b z1) γ σ = ((evE C sc a γ σ).bind fun x => (evE C sc b γ x.2).bind fun y => binV o x.1 y.1 y.2) := rfl
theorem evE_cmp {o : _} {a : _} {b : _} {z1 : _} : evE C sc (.cmp o a b z1) γ σ = ((evE C sc a γ σ).bind fun x => (evE C sc b γ x.2).bind fun y => (cmpV C.inS o x.1 y.1 y.2).map fun c => (.bool c, y.2)) := rfl
theorem evE_and {es : _} {z1 : _} : evE C sc (.and es z1) γ σ = (evAnd C sc es γ σ) := rfl
theorem evE_or {es : _} {z1 : _} : evE C sc (.or es z1) γ σ = (evOr C sc es γ σ) := rfl
theorem evE_not {e : _} {z1 : _} : evE C sc (.not e z1) γ σ = ((evE C sc e γ σ).bind fun a => (truth a.1).map fun b => (.bool !b, a.2)) := rfl
theorem evE_neg {e : _} {z1 : _} : evE C sc (.neg e z1) γ σ = ((evE C sc e γ σ).bind fun a => match a.1 with
    | .int i => some (.int (-i), a.2)
    | _ => none) := rfl
theorem evE_ite {t : _} {a : _} {b : _} {z1 : _} : evE C sc (.ite t a b z1) γ σ = ((evE C sc t γ σ).bind fun x => match truth x.1 with
    | some true => evE C sc a γ x.2
    | some false => evE C sc b γ x.2
    | none => none) := rfl
theorem evE_call {f : _} {z1 : _} {es : _} {z2 : _} : evE C sc (.call f z1 es z2) γ σ = (if sc.glb.contains f then (evEs C sc es γ σ).bind fun r => match C.Ψ f r.1 r.2 with
      | some (.ret v, σ') => some (v, σ')
      | _ => none
    else none) := rfl
theorem evE_bcall {b : _} {x : _} {z1 : _} {es : _} {z2 : _} : evE C sc (.bcall b x z1 es z2) γ σ = (if sc.glb.contains x && C.bi b x && (C.mm || safeB b) then (evEs C sc es γ σ).bind fun r => bcallV C.ob b r.1 r.2 else none) := rfl
theorem evE_meth {o : _} {m : _} {ap : _} {es : _} {p : _} : evE C sc (.meth o m ap es p) γ σ = (if isLv o && Nat.beq ap.endLine p.line then (evE C sc o γ σ).bind fun a => (evEs C sc es γ a.2).bind fun r => methV m a.1 r.1 r.2 else none) := rfl
theorem evE_comp_no {elt : _} {t : _} {it : _} {nms : _} {csc : _} {free : _} {z1 : _} : evE C sc (.comp elt t it .no nms csc free z1) γ σ = (if compWf C.n sc nms csc free && (C.mm || oneT t) then (evE C sc it γ σ).bind fun a => (srcOf a.1).bind fun src => if srcOk C.mm src then
      (loopC (fun x σ₁ => (bindT ⟨csc.loc, [], csc.glb⟩ t x (γ.filter fun q => free.contains q.1)).bind fun γ' => (evE C csc elt γ' σ₁).map fun r => (some r.1, r.2)) src FU 0 a.2).bind fun r => mkLst r.1 r.2
      else none
    else none) := rfl
theorem evE_comp_yes {elt : _} {t : _} {it : _} {c : _} {nms : _} {csc : _} {free : _} {z1 : _} : evE C sc (.comp elt t it (.yes c) nms csc free z1) γ σ = (if compWf C.n sc nms csc free && (C.mm || oneT t) then (evE C sc it γ σ).bind fun a => (srcOf a.1).bind fun src => if srcOk C.mm src then
      (loopC (fun x σ₁ => (bindT ⟨csc.loc, [], csc.glb⟩ t x (γ.filter fun q => free.contains q.1)).bind fun γ' => (evE C csc c γ' σ₁).bind fun b => match truth b.1 with
        | some true => (evE C csc elt γ' b.2).map fun r => (some r.1, r.2)
        | some false => some (none, b.2)
        | none => none) src FU 0 a.2).bind fun r => mkLst r.1 r.2
      else none
    else none) := rfl
theorem evE_hook {z1 : _} {x : _} {y : _} {z2 : _} {z3 : _} : evE C sc (.hook z1 x y z2 z3) γ σ = (match γ.lookup x with
    | some (.obj a) => (C.H y a).map fun v => (v, σ)
    | _ => none) := rfl
theorem evE_opq {z1 : _} : evE C sc (.opq z1) γ σ = (none) := rfl
theorem evEs_nil : evEs C sc (.nil) γ σ = (some ([], σ)) := rfl
theorem evEs_cons {e : _} {r : _} : evEs C sc (.cons e r) γ σ = ((evE C sc e γ σ).bind fun a => (evEs C sc r γ a.2).map fun q => (a.1 :: q.1, q.2)) := rfl
theorem evO_no : evO C sc (.no) γ σ = (some (none, σ)) := rfl
theorem evO_yes {e : _} : evO C sc (.yes e) γ σ = ((evE C sc e γ σ).map fun a => (some a.1, a.2)) := rfl
theorem evAnd_nil : evAnd C sc (.nil) γ σ = (none) := rfl
theorem evAnd_cons_nil {e : _} : evAnd C sc (.cons e .nil) γ σ = (evE C sc e γ σ) := rfl
theorem evAnd_cons_cons {e : _} {b : _} {r : _} : evAnd C sc (.cons e (.cons b r)) γ σ = ((evE C sc e γ σ).bind fun a => match truth a.1 with
    | some true => evAnd C sc (.cons b r) γ a.2
    | some false => some a
    | none => none) := rfl
theorem evOr_nil : evOr C sc (.nil) γ σ = (none) := rfl
theorem evOr_cons_nil {e : _} : evOr C sc (.cons e .nil) γ σ = (evE C sc e γ σ) := rfl
theorem evOr_cons_cons {e : _} {b : _} {r : _} : evOr C sc (.cons e (.cons b r)) γ σ = ((evE C sc e γ σ).bind fun a => match truth a.1 with
    | some true => some a
    | some false => evOr C sc (.cons b r) γ a.2
    | none => none) := rfl
theorem exS_asg {x : _} {px : _} {e : _} {z1 : _} : exS C (.asg x px e z1) γ σ = (if asgOk C.sc x px e then (evE C C.sc e γ σ).bind fun a => (store C.sc x a.1 γ).map fun γ' => (.next, γ', a.2) else none) := rfl
theorem exS_asgT {xs : _} {z1 : _} {z2 : _} {e : _} {z3 : _} : exS C (.asgT xs z1 z2 e z3) γ σ = (if asgTok C.n xs e && C.mm then (evE C C.sc e γ σ).bind fun a => match a.1 with
    | .tup l => (storeL C.sc xs l γ).map fun γ' => (.next, γ', a.2)
    | _ => none
    else none) := rfl
theorem exS_asgI {o : _} {i : _} {z1 : _} {e : _} {z2 : _} : exS C (.asgI o i z1 e z2) γ σ = ((evE C C.sc e γ σ).bind fun v => (evE C C.sc o γ v.2).bind fun a => (evE C C.sc i γ a.2).bind fun b => match a.1, b.1 with
    | .ref k, .int n => match b.2[k]? with
      | some l => if decide (0 ≤ n) && decide (n.toNat < l.length) && okL l then some (.next, γ, b.2.set k (l.set n.toNat v.1)) else none
      | none => none
    | _, _ => none) := rfl
theorem exS_expr {e : _} {z1 : _} : exS C (.expr e z1) γ σ = (if isComp e then none else (evE C C.sc e γ σ).bind fun a => match a.1 with
    | .none => some (.next, γ, a.2)
    | _ => none) := rfl
theorem exS_exprC {f : _} {z1 : _} {es : _} {z2 : _} {z3 : _} : exS C (.exprC f z1 es z2 z3) γ σ = (if C.sc.glb.contains f then (evEs C C.sc es γ σ).bind fun r => match C.Ψ f r.1 r.2 with
      | some (.ret .none, σ') => some (.next, γ, σ')
      | some (.exc m s, σ') => some (.exc m s, γ, σ')
      | _ => none
    else none) := rfl
theorem exS_ifS {t : _} {a : _} {b : _} {z1 : _} : exS C (.ifS t a b z1) γ σ = ((evT C C.sc t γ σ).bind fun c => if c.1 then exSs C a γ c.2 else exSs C b γ c.2) := rfl
theorem exS_forS {t : _} {it : _} {b : _} {z1 : _} : exS C (.forS t it b z1) γ σ = (if C.mm then (itSrc C C.sc it γ σ).bind fun s => loopF (fun x γ₁ σ₁ => (bindT C.sc t x γ₁).bind fun γ' => exSs C b γ' σ₁) s.1 FU 0 γ s.2 else none) := rfl
theorem exS_whileS {t : _} {b : _} {z1 : _} : exS C (.whileS t b z1) γ σ = (loopW (evT C C.sc t) (exSs C b) FU γ σ) := rfl
theorem exS_ret {e : _} {z1 : _} : exS C (.ret e z1) γ σ = ((evE C C.sc e γ σ).map fun a => (.ret a.1, γ, a.2)) := rfl
theorem exS_raise {c : _} {z1 : _} {e : _} {sp : _} {z2 : _} {z3 : _} : exS C (.raise c z1 e sp z2 z3) γ σ = (if C.sc.glb.contains c && C.rz c && C.mm then (evE C C.sc e γ σ).bind fun a => (evO C C.sc sp γ a.2).map fun b => (.exc a.1 (b.1.getD (.int 0)), γ, b.2) else none) := rfl
theorem exS_opq {z1 : _} : exS C (.opq z1) γ σ = (none) := rfl
theorem exSs_nil : exSs C (.nil) γ σ = (some (.next, γ, σ)) := rfl
theorem exSs_cons {s : _} {r : _} : exSs C (.cons s r) γ σ = ((exS C s γ σ).bind fun q => match q.1 with
    | .next => exSs C r q.2.1 q.2.2
    | o => some (o, q.2.1, q.2.2)) := rfl
theorem binV_add {a b : Int} : binV .add (.int a) (.int b) σ = some (.int (a + b), σ) := rfl
theorem binV_addT {a b : List V} : binV .add (.tup a) (.tup b) σ = mkTup (a ++ b) σ := rfl
theorem binV_addL {i j : Nat} : binV .add (.ref i) (.ref j) σ = (match σ[i]?, σ[j]? with
        | some a, some b => mkLst (a ++ b) σ
        | _, _ => none) := rfl
theorem binV_sub {a b : Int} : binV .sub (.int a) (.int b) σ = some (.int (a - b), σ) := rfl
theorem binV_mul {a b : Int} : binV .mul (.int a) (.int b) σ = (if smallI a || smallI b then some (.int (a * b), σ) else none) := rfl
theorem binV_fdiv {a b : Int} : binV .fdiv (.int a) (.int b) σ = (if decide (b = 0) || !Nat.blt b.natAbs 1073741824 then none else some (.int (Int.fdiv a b), σ)) := rfl
theorem binV_mod {a b : Int} : binV .mod (.int a) (.int b) σ = (if decide (b = 0) then none else some (.int (Int.fmod a b), σ)) := rfl
theorem binV_pow {a b : Int} : binV .pow (.int a) (.int b) σ = (if decide (0 ≤ b) && decide (b ≤ 100) && smallI a then some (.int (a ^ b.toNat), σ) else none) := rfl
variable {inS : Nat → Nat → Option Bool} {ob : Nat → Option (List Int)}
theorem cmpV_eq {a b : V} : cmpV inS .eq a b σ = eqV a b σ := rfl
theorem cmpV_ne {a b : V} : cmpV inS .ne a b σ = (eqV a b σ).map (!·) := rfl
theorem cmpV_lt {a b : Int} : cmpV inS .lt (.int a) (.int b) σ = some (decide (a < b)) := rfl
theorem cmpV_ge {a b : Int} : cmpV inS .ge (.int a) (.int b) σ = some (decide (a ≥ b)) := rfl
theorem cmpV_gt {a b : Int} : cmpV inS .gt (.int a) (.int b) σ = some (decide (a > b)) := rfl
theorem cmpV_is {a : V} : cmpV inS .is a .none σ = isNone a := rfl
theorem cmpV_isnot {a : V} : cmpV inS .isnot a .none σ = (isNone a).map (!·) := rfl
theorem cmpV_in {a : V} {l : List V} : cmpV inS .in_ a (.tup l) σ = inL a l := rfl
theorem cmpV_inS {i j : Nat} : cmpV inS .in_ (.str i) (.str j) σ = inS i j := rfl
theorem bcallV_len {v : V} : bcallV ob .len [v] σ = (match itemsOf ob v σ with
    | some l => if okL l then some (.int l.length, σ) else none
    | none => none) := rfl
theorem bcallV_list {v : V} : bcallV ob .list [v] σ = (match itemsOf (fun _ => none) v σ with
    | some l => mkLst l σ
    | none => none) := rfl
theorem bcallV_tupT {l : List V} : bcallV ob .tuple [.tup l] σ = some (.tup l, σ) := rfl
theorem bcallV_tupL {k : Nat} : bcallV ob .tuple [.ref k] σ = (match σ[k]? with
      | some l => mkTup l σ
      | none => none) := rfl
theorem bcallV_int {i : Int} : bcallV ob .int [.int i] σ = some (.int i, σ) := rfl
theorem bcallV_bool {b : Bool} : bcallV ob .int [.bool b] σ = some (.int (if b then 1 else 0), σ) := rfl
theorem bcallV_max {a b : Int} : bcallV ob .max [.int a, .int b] σ = some (.int (if b > a then b else a), σ) := rfl
theorem bcallV_min {a b : Int} : bcallV ob .min [.int a, .int b] σ = some (.int (if b < a then b else a), σ) := rfl
theorem eqV_tup {a b : List V} : eqV (.tup a) (.tup b) σ = (if Nat.beq a.length b.length && allEq0 a b then eqL a b else none) := rfl
theorem eqV_ref {i j : Nat} : eqV (.ref i) (.ref j) σ = (match σ[i]?, σ[j]? with
    | some a, some b => match b with
      | [] => some a.isEmpty
      | _ :: _ => none
    | _, _ => none) := rfl
theorem eqV_nt {b : List V} : eqV .none (.tup b) σ = some false := rfl
theorem eqV_tn {b : List V} : eqV (.tup b) .none σ = some false := rfl
theorem eqV_nn : eqV .none .none σ = some true := rfl
theorem eqV_int {a b : Int} : eqV (.int a) (.int b) σ = some (decide (a = b)) := rfl
theorem eqV_bool {a b : Bool} : eqV (.bool a) (.bool b) σ = some (a == b) := rfl
theorem eqV_str {a b : Nat} : eqV (.str a) (.str b) σ = some (Nat.beq a b) := rfl
theorem eq0_int {a b : Int} : eq0 (.int a) (.int b) = some (decide (a = b)) := rfl
theorem eq0_bool {a b : Bool} : eq0 (.bool a) (.bool b) = some (a == b) := rfl
theorem eq0_str {a b : Nat} : eq0 (.str a) (.str b) = some (Nat.beq a b) := rfl
theorem eqL_nil : eqL [] [] = some true := rfl
theorem eqL_cons {x y : V} {xs ys : List V} : eqL (x :: xs) (y :: ys) = (match eq0 x y with
    | some true => eqL xs ys
    | some false => some false
    | none => none) := rfl
theorem allEq0_nil : allEq0 [] [] = true := rfl
theorem allEq0_cons {a b : V} {la lb : List V} : allEq0 (a :: la) (b :: lb) = ((eq0 a b).isSome && allEq0 la lb) := rfl
theorem storeL_nil : storeL sc [] [] γ = some γ := rfl
theorem storeL_cons {x : Nat × Pos} {xs : List (Nat × Pos)} {v : V} {vs : List V} : storeL sc (x :: xs) (v :: vs) γ = ((store sc x.1 v γ).bind fun γ' => storeL sc xs vs γ') := rfl
theorem loopC_succ {body : V → Store → Option (Option V × Store)} {src : Src} {n i : Nat} : loopC body src (n + 1) i σ = (match srcAt src σ i with
    | none => none
    | some none => some ([], σ)
    | some (some x) => (body x σ).bind fun r => (loopC body src n (i + 1) r.2).map fun q => ((match r.1 with | some v => v :: q.1 | none => q.1), q.2)) := rfl
theorem loopF_succ {body : V → Env1 → Store → ExR} {src : Src} {n i : Nat} : loopF body src (n + 1) i γ σ = (match srcAt src σ i with
    | none => none
    | some none => some (.next, γ, σ)
    | some (some x) => (body x γ σ).bind fun r => match r.1 with
      | .next => loopF body src n (i + 1) r.2.1 r.2.2
      | .cont => loopF body src n (i + 1) r.2.1 r.2.2
      | .brk => some (.next, r.2.1, r.2.2)
      | o => some (o, r.2.1, r.2.2)) := rfl
theorem loopW_succ {test : Env1 → Store → Option (Bool × Store)} {body : Env1 → Store → ExR} {n : Nat} : loopW test body (n + 1) γ σ = ((test γ σ).bind fun t => if t.1 then (body γ t.2).bind fun r => match r.1 with
      | .next => loopW test body n r.2.1 r.2.2
      | .cont => loopW test body n r.2.1 r.2.2
      | .brk => some (.next, r.2.1, r.2.2)
      | o => some (o, r.2.1, r.2.2)
    else some (.next, γ, t.2)) := rfl
theorem asgOk_none {x : Nat} {px : Pos} {k : _} {p : _} : asgOk sc x px (.none k p) = true := rfl
theorem asgOk_bool {x : Nat} {px : Pos} {b : _} {k : _} {p : _} : asgOk sc x px (.bool b k p) = true := rfl
theorem asgOk_int {x : Nat} {px : Pos} {i : _} {k : _} {p : _} : asgOk sc x px (.int i k p) = true := rfl
theorem asgOk_str {x : Nat} {px : Pos} {c : _} {k : _} {p : _} : asgOk sc x px (.str c k p) = true := rfl
theorem asgOk_lv {x : Nat} {px : Pos} {x : _} {p : _} : asgOk sc x px (.lv x p) = true := rfl
theorem asgOk_gi {x : Nat} {px : Pos} {x : _} {p : _} : asgOk sc x px (.gi x p) = true := rfl
theorem asgOk_tup {x : Nat} {px : Pos} {es : _} {k : _} {p : _} : asgOk sc x px (.tup es k p) = true := rfl
theorem asgOk_lst {x : Nat} {px : Pos} {es : _} {p : _} : asgOk sc x px (.lst es p) = true := rfl
theorem asgOk_idx {x : Nat} {px : Pos} {e : _} {i : _} {p : _} : asgOk sc x px (.idx e i p) = true := rfl
theorem asgOk_slc {x : Nat} {px : Pos} {e : _} {lo : _} {hi : _} {ps : _} {p : _} : asgOk sc x px (.slc e lo hi ps p) = true := rfl
theorem asgOk_rev {x : Nat} {px : Pos} {e : _} {st : _} {ps : _} {p : _} : asgOk sc x px (.rev e st ps p) = true := rfl
theorem asgOk_bin {x : Nat} {px : Pos} {o : _} {a : _} {b : _} {p : _} : asgOk sc x px (.bin o a b p) = true := rfl
theorem asgOk_cmp {x : Nat} {px : Pos} {o : _} {a : _} {b : _} {p : _} : asgOk sc x px (.cmp o a b p) = true := rfl
theorem asgOk_and {x : Nat} {px : Pos} {es : _} {p : _} : asgOk sc x px (.and es p) = true := rfl
theorem asgOk_or {x : Nat} {px : Pos} {es : _} {p : _} : asgOk sc x px (.or es p) = true := rfl
theorem asgOk_not {x : Nat} {px : Pos} {e : _} {p : _} : asgOk sc x px (.not e p) = true := rfl
theorem asgOk_neg {x : Nat} {px : Pos} {e : _} {p : _} : asgOk sc x px (.neg e p) = true := rfl
theorem asgOk_ite {x : Nat} {px : Pos} {t : _} {a : _} {b : _} {p : _} : asgOk sc x px (.ite t a b p) = true := rfl
theorem asgOk_call {x : Nat} {px : Pos} {f : _} {fp : _} {es : _} {p : _} : asgOk sc x px (.call f fp es p) = true := rfl
theorem asgOk_bcall {x : Nat} {px : Pos} {b : _} {y : _} {fp : _} {es : _} {p : _} : asgOk sc x px (.bcall b y fp es p) = true := rfl
theorem asgOk_meth {x : Nat} {px : Pos} {o : _} {m : _} {ap : _} {es : _} {p : _} : asgOk sc x px (.meth o m ap es p) = true := rfl
theorem asgOk_hook {x : Nat} {px : Pos} {k : _} {y : _} {a : _} {p1 : _} {p2 : _} : asgOk sc x px (.hook k y a p1 p2) = true := rfl
theorem asgOk_comp {x : Nat} {px : Pos} {elt : IE} {t : Tgt} {it : IE} {cond : IEo} {nms : List (Nat × NameKind)} {csc : Sc} {free : List Nat} {cp : Pos} : asgOk sc x px (.comp elt t it cond nms csc free cp) = (sc.loc.contains x && Nat.beq px.line cp.line && !(memN x (nms.map fun q => q.1))) := rfl
theorem isNone_none : isNone .none = some true := rfl
theorem isNone_bool {b : Bool} : isNone (.bool b) = some false := rfl
theorem isNone_tup {l : List V} : isNone (.tup l) = some false := rfl
theorem isNone_ref {k : Nat} : isNone (.ref k) = some false := rfl
end
end Mine
end
section
open PySem
set_option maxRecDepth 100000
set_option linter.unusedVariables false
set_option autoImplicit false
namespace Mine
noncomputable def tb : List String := ["", "!", "e", "f", "k", "t", "&&", ".0", "at", "do", "if", "no", "or", "adt", "bad", "big", "box", "int", "law", "len", "let", "max", "min", "mut", "one", "ref", "row", "top", "way", "yes", "arms", "bare", "bind", "body", "bool", "call", "cast", "cell", "deep", "each", "kind", "last", "lazy", "left", "list", "loop", "many", "part", "path", "rows", "self", "sort", "spot", "told", "tree", "wild", "word", "array", "block", "break", "const", "deref", "drawn", "fault", "field", "first", "found", "guard", "heads", "index", "inner", "least", "lines", "local", "match", "mixed", "never", "other", "outer", "panic", "parts", "print", "range", "taken", "tuple", "types", "unary", "value", "words", "world", "wrong", "around", "assign", "behind", "binary", "borrow", "fields", "leaves", "locals", "opened", "params", "repeat", "result", "return", "script", "source", "things", "update", "TypedFn", "lacking", "message", "missing", "pattern", "rest_of", "useless", "variant", "__init__", "_law_one", "are_wild", "continue", "greatest", "inner_of", "left_out", "narrowed", "no value", "patterns", "typed_fn", "Exception", "LendError", "MOST_DEEP", "_law_arms", "_law_bool", "_law_node", "_law_pool", "_law_take", "_law_told", "bounds_of", "fields_of", "has_guard", "has_value", "is_useful", "open_arms", "parameter", "ranges_of", "statement", "check_arms", "check_lets", "constructor", "PatternFault", "constructors", "check_matches", "left_out_wild", "inner_of_block", "inner_of_match", "is_useful_by_parts", "rebuilt_usefulness", "parts_of_usefulness", "no value comes to an arm", "a match leaves out a value", "a let whose pattern some value does not have", "a parameter whose pattern some value does not have"]
noncomputable def f_bare : Fn := ⟨[112], ⟨[112], [], []⟩,
    (.cons (.whileS (.cmp .eq (.idx (.lv 112 ⟨68, 10, 68, 17⟩) (.int 0 0 ⟨68, 18, 68, 19⟩) ⟨68, 10, 68, 20⟩) (.str 32 0 ⟨68, 24, 68, 30⟩) ⟨68, 10, 68, 30⟩)
    (.cons (.ifS (.cmp .is (.idx (.lv 112 ⟨69, 11, 69, 18⟩) (.int 4 0 ⟨69, 19, 69, 20⟩) ⟨69, 11, 69, 21⟩) (.none 0 ⟨69, 25, 69, 29⟩) ⟨69, 11, 69, 29⟩)
    (.cons (.ret (.tup (.cons (.str 55 0 ⟨70, 20, 70, 26⟩) (.cons (.idx (.lv 112 ⟨70, 28, 70, 35⟩) (.int 1 0 ⟨70, 36, 70, 37⟩) ⟨70, 28, 70, 38⟩) .nil)) 0 ⟨70, 19, 70, 39⟩) ⟨70, 12, 70, 39⟩)
    .nil)
    .nil ⟨69, 8, 70, 39⟩)
    (.cons (.asg 112 ⟨71, 8, 71, 15⟩ (.idx (.lv 112 ⟨71, 18, 71, 25⟩) (.int 4 0 ⟨71, 26, 71, 27⟩) ⟨71, 18, 71, 28⟩) ⟨71, 8, 71, 28⟩)
    .nil)) ⟨68, 4, 71, 28⟩)
    (.cons (.ret (.lv 112 ⟨72, 11, 72, 18⟩) ⟨72, 4, 72, 18⟩)
    .nil))⟩
noncomputable def f_opened : Fn := ⟨[49], ⟨[49, 66, 43, 65], [26], [44, 31, 84]⟩,
    (.cons (.asgT [(66, ⟨74, 4, 74, 9⟩), (43, ⟨74, 11, 74, 15⟩)] 0 ⟨74, 4, 74, 15⟩ (.tup (.cons (.lst .nil ⟨74, 19, 74, 21⟩) (.cons (.rev (.bcall .list 44 ⟨74, 23, 74, 27⟩ (.cons (.lv 49 ⟨74, 28, 74, 32⟩) .nil) ⟨74, 23, 74, 33⟩) (.neg (.int 1 0 ⟨74, 37, 74, 38⟩) ⟨74, 36, 74, 38⟩) ⟨74, 34, 74, 38⟩ ⟨74, 23, 74, 39⟩) .nil)) 0 ⟨74, 18, 74, 40⟩) ⟨74, 4, 74, 40⟩)
    (.cons (.whileS (.cmp .ne (.lv 43 ⟨75, 10, 75, 14⟩) (.lst .nil ⟨75, 18, 75, 20⟩) ⟨75, 10, 75, 20⟩)
    (.cons (.asg 26 ⟨76, 8, 76, 11⟩ (.meth (.lv 43 ⟨76, 14, 76, 18⟩) .pop ⟨76, 14, 76, 22⟩ .nil ⟨76, 14, 76, 24⟩) ⟨76, 8, 76, 24⟩)
    (.cons (.asg 65 ⟨77, 8, 77, 13⟩ (.call 31 ⟨77, 16, 77, 20⟩ (.cons (.idx (.lv 26 ⟨77, 21, 77, 24⟩) (.int 0 0 ⟨77, 25, 77, 26⟩) ⟨77, 21, 77, 27⟩) .nil) ⟨77, 16, 77, 28⟩) ⟨77, 8, 77, 28⟩)
    (.cons (.ifS (.cmp .eq (.idx (.lv 65 ⟨78, 11, 78, 16⟩) (.int 0 0 ⟨78, 17, 78, 18⟩) ⟨78, 11, 78, 19⟩) (.str 12 0 ⟨78, 23, 78, 27⟩) ⟨78, 11, 78, 27⟩)
    (.cons (.expr (.meth (.lv 43 ⟨79, 12, 79, 16⟩) .extend ⟨79, 12, 79, 23⟩ (.cons (.comp (.bin .add (.tup (.cons (.lv 47 ⟨79, 26, 79, 30⟩) .nil) 0 ⟨79, 25, 79, 32⟩) (.bcall .tuple 84 ⟨79, 35, 79, 40⟩ (.cons (.slc (.lv 26 ⟨79, 41, 79, 44⟩) (.yes (.int 1 0 ⟨79, 45, 79, 46⟩)) .no ⟨79, 45, 79, 47⟩ ⟨79, 41, 79, 48⟩) .nil) ⟨79, 35, 79, 49⟩) ⟨79, 25, 79, 49⟩) (.one 47 ⟨79, 54, 79, 58⟩) (.rev (.idx (.lv 65 ⟨79, 62, 79, 67⟩) (.int 2 0 ⟨79, 68, 79, 69⟩) ⟨79, 62, 79, 70⟩) (.neg (.int 1 0 ⟨79, 74, 79, 75⟩) ⟨79, 73, 79, 75⟩) ⟨79, 71, 79, 75⟩ ⟨79, 62, 79, 76⟩) .no [(7, .local), (47, .local), (84, .globalImplicit), (26, .free)] ⟨[47], [26], [84]⟩ [26] ⟨79, 24, 79, 77⟩) .nil) ⟨79, 12, 79, 78⟩) ⟨79, 12, 79, 78⟩)
    .nil)
    (.cons (.expr (.meth (.lv 66 ⟨81, 12, 81, 17⟩) .append ⟨81, 12, 81, 24⟩ (.cons (.bin .add (.tup (.cons (.lv 65 ⟨81, 26, 81, 31⟩) .nil) 0 ⟨81, 25, 81, 33⟩) (.bcall .tuple 84 ⟨81, 36, 81, 41⟩ (.cons (.slc (.lv 26 ⟨81, 42, 81, 45⟩) (.yes (.int 1 0 ⟨81, 46, 81, 47⟩)) .no ⟨81, 46, 81, 48⟩ ⟨81, 42, 81, 49⟩) .nil) ⟨81, 36, 81, 50⟩) ⟨81, 25, 81, 50⟩) .nil) ⟨81, 12, 81, 51⟩) ⟨81, 12, 81, 51⟩)
    .nil) ⟨78, 8, 81, 51⟩)
    .nil))) ⟨75, 4, 81, 51⟩)
    (.cons (.ret (.lv 66 ⟨82, 11, 82, 16⟩) ⟨82, 4, 82, 16⟩)
    .nil)))⟩
noncomputable def f_constructors : Fn := ⟨[5, 68, 89], ⟨[5, 68, 89, 13], [], [143, 71, 120, 82, 19]⟩,
    (.cons (.ifS (.cmp .eq (.idx (.lv 5 ⟨97, 7, 97, 8⟩) (.int 0 0 ⟨97, 9, 97, 10⟩) ⟨97, 7, 97, 11⟩) (.str 34 0 ⟨97, 15, 97, 21⟩) ⟨97, 7, 97, 21⟩)
    (.cons (.ret (.lst (.cons (.tup (.cons (.str 34 0 ⟨98, 17, 98, 23⟩) (.cons (.bool false 0 ⟨98, 25, 98, 30⟩) .nil)) 0 ⟨98, 16, 98, 31⟩) (.cons (.tup (.cons (.str 34 0 ⟨98, 34, 98, 40⟩) (.cons (.bool true 0 ⟨98, 42, 98, 46⟩) .nil)) 0 ⟨98, 33, 98, 47⟩) .nil)) ⟨98, 15, 98, 48⟩) ⟨98, 8, 98, 48⟩)
    .nil)
    .nil ⟨97, 4, 98, 48⟩)
    (.cons (.ifS (.cmp .eq (.idx (.lv 5 ⟨99, 7, 99, 8⟩) (.int 0 0 ⟨99, 9, 99, 10⟩) ⟨99, 7, 99, 11⟩) (.str 17 0 ⟨99, 15, 99, 20⟩) ⟨99, 7, 99, 20⟩)
    (.cons (.ret (.call 143 ⟨100, 15, 100, 24⟩ (.cons (.call 71 ⟨100, 25, 100, 30⟩ (.cons (.idx (.lv 5 ⟨100, 31, 100, 32⟩) (.int 1 0 ⟨100, 33, 100, 34⟩) ⟨100, 31, 100, 35⟩) .nil) ⟨100, 25, 100, 36⟩) (.cons (.call 120 ⟨100, 38, 100, 46⟩ (.cons (.idx (.lv 5 ⟨100, 47, 100, 48⟩) (.int 1 0 ⟨100, 49, 100, 50⟩) ⟨100, 47, 100, 51⟩) .nil) ⟨100, 38, 100, 52⟩) (.cons (.lv 68 ⟨100, 54, 100, 59⟩) .nil))) ⟨100, 15, 100, 60⟩) ⟨100, 8, 100, 60⟩)
    .nil)
    .nil ⟨99, 4, 100, 60⟩)
    (.cons (.ifS (.cmp .eq (.idx (.lv 5 ⟨101, 7, 101, 8⟩) (.int 0 0 ⟨101, 9, 101, 10⟩) ⟨101, 7, 101, 11⟩) (.str 84 0 ⟨101, 15, 101, 22⟩) ⟨101, 7, 101, 22⟩)
    (.cons (.ret (.lst (.cons (.tup (.cons (.str 96 0 ⟨102, 17, 102, 25⟩) .nil) 0 ⟨102, 16, 102, 27⟩) .nil) ⟨102, 15, 102, 28⟩) ⟨102, 8, 102, 28⟩)
    .nil)
    .nil ⟨101, 4, 102, 28⟩)
    (.cons (.ifS (.cmp .in_ (.idx (.lv 5 ⟨103, 7, 103, 8⟩) (.int 0 0 ⟨103, 9, 103, 10⟩) ⟨103, 7, 103, 11⟩) (.tup (.cons (.str 25 0 ⟨103, 16, 103, 21⟩) (.cons (.str 16 0 ⟨103, 23, 103, 28⟩) .nil)) 0 ⟨103, 15, 103, 29⟩) ⟨103, 7, 103, 29⟩)
    (.cons (.ret (.lst (.cons (.tup (.cons (.str 61 0 ⟨104, 17, 104, 24⟩) .nil) 0 ⟨104, 16, 104, 26⟩) .nil) ⟨104, 15, 104, 27⟩) ⟨104, 8, 104, 27⟩)
    .nil)
    .nil ⟨103, 4, 104, 27⟩)
    (.cons (.ifS (.cmp .eq (.idx (.lv 5 ⟨105, 7, 105, 8⟩) (.int 0 0 ⟨105, 9, 105, 10⟩) ⟨105, 7, 105, 11⟩) (.str 76 0 ⟨105, 15, 105, 22⟩) ⟨105, 7, 105, 22⟩)
    (.cons (.ret (.lst .nil ⟨106, 15, 106, 17⟩) ⟨106, 8, 106, 17⟩)
    .nil)
    .nil ⟨105, 4, 106, 17⟩)
    (.cons (.ifS (.and (.cons (.cmp .eq (.idx (.lv 5 ⟨107, 7, 107, 8⟩) (.int 0 0 ⟨107, 9, 107, 10⟩) ⟨107, 7, 107, 11⟩) (.str 13 0 ⟨107, 15, 107, 20⟩) ⟨107, 7, 107, 20⟩) (.cons (.cmp .in_ (.idx (.lv 5 ⟨107, 25, 107, 26⟩) (.int 1 0 ⟨107, 27, 107, 28⟩) ⟨107, 25, 107, 29⟩) (.opq (PySem.Expr.Attribute (PySem.Expr.Name (Str.ofString "world") ⟨107, 33, 107, 38⟩) (Str.ofString "adts") ⟨107, 33, 107, 43⟩)) ⟨107, 25, 107, 43⟩) .nil)) ⟨107, 7, 107, 43⟩)
    (.cons (.asg 13 ⟨108, 8, 108, 11⟩ (.idx (.opq (PySem.Expr.Attribute (PySem.Expr.Name (Str.ofString "world") ⟨108, 14, 108, 19⟩) (Str.ofString "adts") ⟨108, 14, 108, 24⟩)) (.idx (.lv 5 ⟨108, 25, 108, 26⟩) (.int 1 0 ⟨108, 27, 108, 28⟩) ⟨108, 25, 108, 29⟩) ⟨108, 14, 108, 30⟩) ⟨108, 8, 108, 30⟩)
    (.cons (.ret (.ite (.opq (PySem.Expr.Attribute (PySem.Expr.Name (Str.ofString "adt") ⟨109, 71, 109, 74⟩) (Str.ofString "is_enum") ⟨109, 71, 109, 82⟩)) (.comp (.tup (.cons (.str 115 0 ⟨109, 17, 109, 26⟩) (.cons (.lv 8 ⟨109, 28, 109, 30⟩) .nil)) 0 ⟨109, 16, 109, 31⟩) (.one 8 ⟨109, 36, 109, 38⟩) (.opq (PySem.Expr.Call (func := (PySem.Expr.Name (Str.ofString "range") ⟨109, 42, 109, 47⟩)) (args := [(PySem.Expr.Call (func := (PySem.Expr.Name (Str.ofString "len") ⟨109, 48, 109, 51⟩)) (args := [(PySem.Expr.Attribute (PySem.Expr.Name (Str.ofString "adt") ⟨109, 52, 109, 55⟩) (Str.ofString "variants") ⟨109, 52, 109, 64⟩)]) (keywords := []) (pos := ⟨109, 48, 109, 65⟩))]) (keywords := []) (pos := ⟨109, 42, 109, 66⟩))) .no [(7, .local), (8, .local)] ⟨[8], [], []⟩ [] ⟨109, 15, 109, 67⟩) (.lst (.cons (.tup (.cons (.str 96 0 ⟨109, 90, 109, 98⟩) .nil) 0 ⟨109, 89, 109, 100⟩) .nil) ⟨109, 88, 109, 101⟩) ⟨109, 15, 109, 101⟩) ⟨109, 8, 109, 101⟩)
    .nil))
    .nil ⟨107, 4, 109, 101⟩)
    (.cons (.ret (.lst (.cons (.tup (.cons (.str 77 0 ⟨110, 13, 110, 20⟩) .nil) 0 ⟨110, 12, 110, 22⟩) .nil) ⟨110, 11, 110, 23⟩) ⟨110, 4, 110, 23⟩)
    .nil)))))))⟩
noncomputable def f_parts_of : Fn := ⟨[5, 147, 89], ⟨[5, 147, 89, 40], [], [137, 44]⟩,
    (.cons (.asg 40 ⟨112, 4, 112, 8⟩ (.idx (.lv 147 ⟨112, 11, 112, 22⟩) (.int 0 0 ⟨112, 23, 112, 24⟩) ⟨112, 11, 112, 25⟩) ⟨112, 4, 112, 25⟩)
    (.cons (.ifS (.cmp .eq (.lv 40 ⟨113, 7, 113, 11⟩) (.str 115 0 ⟨113, 15, 113, 24⟩) ⟨113, 7, 113, 24⟩)
    (.cons (.ret (.comp (.idx (.lv 64 ⟨114, 16, 114, 21⟩) (.int 1 0 ⟨114, 22, 114, 23⟩) ⟨114, 16, 114, 24⟩) (.one 64 ⟨114, 29, 114, 34⟩) (.call 137 ⟨114, 38, 114, 47⟩ (.cons (.lv 5 ⟨114, 48, 114, 49⟩) (.cons (.idx (.lv 147 ⟨114, 51, 114, 62⟩) (.int 1 0 ⟨114, 63, 114, 64⟩) ⟨114, 51, 114, 65⟩) (.cons (.lv 89 ⟨114, 67, 114, 72⟩) .nil))) ⟨114, 38, 114, 73⟩) .no [(7, .local), (64, .local)] ⟨[64], [], []⟩ [] ⟨114, 15, 114, 74⟩) ⟨114, 8, 114, 74⟩)
    .nil)
    .nil ⟨113, 4, 114, 74⟩)
    (.cons (.ifS (.cmp .eq (.lv 40 ⟨115, 7, 115, 11⟩) (.str 96 0 ⟨115, 15, 115, 23⟩) ⟨115, 7, 115, 23⟩)
    (.cons (.ret (.ite (.cmp .eq (.idx (.lv 5 ⟨116, 29, 116, 30⟩) (.int 0 0 ⟨116, 31, 116, 32⟩) ⟨116, 29, 116, 33⟩) (.str 84 0 ⟨116, 37, 116, 44⟩) ⟨116, 29, 116, 44⟩) (.bcall .list 44 ⟨116, 15, 116, 19⟩ (.cons (.idx (.lv 5 ⟨116, 20, 116, 21⟩) (.int 1 0 ⟨116, 22, 116, 23⟩) ⟨116, 20, 116, 24⟩) .nil) ⟨116, 15, 116, 25⟩) (.comp (.idx (.lv 64 ⟨116, 51, 116, 56⟩) (.int 1 0 ⟨116, 57, 116, 58⟩) ⟨116, 51, 116, 59⟩) (.one 64 ⟨116, 64, 116, 69⟩) (.call 137 ⟨116, 73, 116, 82⟩ (.cons (.lv 5 ⟨116, 83, 116, 84⟩) (.cons (.int 0 0 ⟨116, 86, 116, 87⟩) (.cons (.lv 89 ⟨116, 89, 116, 94⟩) .nil))) ⟨116, 73, 116, 95⟩) .no [(7, .local), (64, .local)] ⟨[64], [], []⟩ [] ⟨116, 50, 116, 96⟩) ⟨116, 15, 116, 96⟩) ⟨116, 8, 116, 96⟩)
    .nil)
    .nil ⟨115, 4, 116, 96⟩)
    (.cons (.ifS (.cmp .eq (.lv 40 ⟨117, 7, 117, 11⟩) (.str 61 0 ⟨117, 15, 117, 22⟩) ⟨117, 7, 117, 22⟩)
    (.cons (.ret (.ite (.cmp .eq (.idx (.lv 5 ⟨118, 25, 118, 26⟩) (.int 0 0 ⟨118, 27, 118, 28⟩) ⟨118, 25, 118, 29⟩) (.str 25 0 ⟨118, 33, 118, 38⟩) ⟨118, 25, 118, 38⟩) (.lst (.cons (.idx (.lv 5 ⟨118, 16, 118, 17⟩) (.int 3 0 ⟨118, 18, 118, 19⟩) ⟨118, 16, 118, 20⟩) .nil) ⟨118, 15, 118, 21⟩) (.lst (.cons (.idx (.lv 5 ⟨118, 45, 118, 46⟩) (.int 1 0 ⟨118, 47, 118, 48⟩) ⟨118, 45, 118, 49⟩) .nil) ⟨118, 44, 118, 50⟩) ⟨118, 15, 118, 50⟩) ⟨118, 8, 118, 50⟩)
    .nil)
    .nil ⟨117, 4, 118, 50⟩)
    (.cons (.ret (.lst .nil ⟨119, 11, 119, 13⟩) ⟨119, 4, 119, 13⟩)
    .nil)))))⟩
noncomputable def f_taken : Fn := ⟨[112, 147, 46], ⟨[112, 147, 46, 40, 65, 41], [], [84, 136]⟩,
    (.cons (.asg 40 ⟨122, 4, 122, 8⟩ (.idx (.lv 112 ⟨122, 11, 122, 18⟩) (.int 0 0 ⟨122, 19, 122, 20⟩) ⟨122, 11, 122, 21⟩) ⟨122, 4, 122, 21⟩)
    (.cons (.ifS (.cmp .eq (.lv 40 ⟨123, 7, 123, 11⟩) (.str 55 0 ⟨123, 15, 123, 21⟩) ⟨123, 7, 123, 21⟩)
    (.cons (.ret (.bcall .tuple 84 ⟨124, 15, 124, 20⟩ (.cons (.bin .mul (.lst (.cons (.lv 112 ⟨124, 22, 124, 29⟩) .nil) ⟨124, 21, 124, 30⟩) (.lv 46 ⟨124, 33, 124, 37⟩) ⟨124, 21, 124, 37⟩) .nil) ⟨124, 15, 124, 38⟩) ⟨124, 8, 124, 38⟩)
    .nil)
    .nil ⟨123, 4, 124, 38⟩)
    (.cons (.ifS (.cmp .eq (.idx (.lv 147 ⟨125, 7, 125, 18⟩) (.int 0 0 ⟨125, 19, 125, 20⟩) ⟨125, 7, 125, 21⟩) (.str 82 0 ⟨125, 25, 125, 32⟩) ⟨125, 7, 125, 32⟩)
    (.cons (.asgT [(65, ⟨126, 8, 126, 13⟩), (41, ⟨126, 15, 126, 19⟩)] 0 ⟨126, 8, 126, 19⟩ (.call 136 ⟨126, 22, 126, 31⟩ (.cons (.lv 112 ⟨126, 32, 126, 39⟩) .nil) ⟨126, 22, 126, 40⟩) ⟨126, 8, 126, 40⟩)
    (.cons (.ret (.ite (.and (.cons (.opq (PySem.Expr.Compare (left := (PySem.Expr.Name (Str.ofString "first") ⟨127, 21, 127, 26⟩)) (ops := [PySem.CmpOp.LtE]) (comparators := [(PySem.Expr.Subscript (value := (PySem.Expr.Name (Str.ofString "constructor") ⟨127, 30, 127, 41⟩)) (slice := (PySem.Expr.Constant (PySem.Const.int 1) 0 ⟨127, 42, 127, 43⟩)) (pos := ⟨127, 30, 127, 44⟩))]) (pos := ⟨127, 21, 127, 44⟩))) (.cons (.opq (PySem.Expr.Compare (left := (PySem.Expr.Subscript (value := (PySem.Expr.Name (Str.ofString "constructor") ⟨127, 49, 127, 60⟩)) (slice := (PySem.Expr.Constant (PySem.Const.int 2) 0 ⟨127, 61, 127, 62⟩)) (pos := ⟨127, 49, 127, 63⟩))) (ops := [PySem.CmpOp.LtE]) (comparators := [(PySem.Expr.Name (Str.ofString "last") ⟨127, 67, 127, 71⟩)]) (pos := ⟨127, 49, 127, 71⟩))) .nil)) ⟨127, 21, 127, 71⟩) (.tup .nil 0 ⟨127, 15, 127, 17⟩) (.none 0 ⟨127, 77, 127, 81⟩) ⟨127, 15, 127, 81⟩) ⟨127, 8, 127, 81⟩)
    .nil))
    .nil ⟨125, 4, 127, 81⟩)
    (.cons (.ifS (.cmp .eq (.idx (.lv 147 ⟨128, 7, 128, 18⟩) (.int 0 0 ⟨128, 19, 128, 20⟩) ⟨128, 7, 128, 21⟩) (.str 34 0 ⟨128, 25, 128, 31⟩) ⟨128, 7, 128, 31⟩)
    (.cons (.ret (.ite (.cmp .eq (.idx (.lv 112 ⟨129, 21, 129, 28⟩) (.int 2 0 ⟨129, 29, 129, 30⟩) ⟨129, 21, 129, 31⟩) (.idx (.lv 147 ⟨129, 35, 129, 46⟩) (.int 1 0 ⟨129, 47, 129, 48⟩) ⟨129, 35, 129, 49⟩) ⟨129, 21, 129, 49⟩) (.tup .nil 0 ⟨129, 15, 129, 17⟩) (.none 0 ⟨129, 55, 129, 59⟩) ⟨129, 15, 129, 59⟩) ⟨129, 8, 129, 59⟩)
    .nil)
    .nil ⟨128, 4, 129, 59⟩)
    (.cons (.ifS (.cmp .eq (.idx (.lv 147 ⟨130, 7, 130, 18⟩) (.int 0 0 ⟨130, 19, 130, 20⟩) ⟨130, 7, 130, 21⟩) (.str 115 0 ⟨130, 25, 130, 34⟩) ⟨130, 7, 130, 34⟩)
    (.cons (.ret (.ite (.cmp .eq (.idx (.lv 112 ⟨131, 36, 131, 43⟩) (.int 2 0 ⟨131, 44, 131, 45⟩) ⟨131, 36, 131, 46⟩) (.idx (.lv 147 ⟨131, 50, 131, 61⟩) (.int 1 0 ⟨131, 62, 131, 63⟩) ⟨131, 50, 131, 64⟩) ⟨131, 36, 131, 64⟩) (.bcall .tuple 84 ⟨131, 15, 131, 20⟩ (.cons (.idx (.lv 112 ⟨131, 21, 131, 28⟩) (.int 3 0 ⟨131, 29, 131, 30⟩) ⟨131, 21, 131, 31⟩) .nil) ⟨131, 15, 131, 32⟩) (.none 0 ⟨131, 70, 131, 74⟩) ⟨131, 15, 131, 74⟩) ⟨131, 8, 131, 74⟩)
    .nil)
    .nil ⟨130, 4, 131, 74⟩)
    (.cons (.ifS (.cmp .eq (.idx (.lv 147 ⟨132, 7, 132, 18⟩) (.int 0 0 ⟨132, 19, 132, 20⟩) ⟨132, 7, 132, 21⟩) (.str 96 0 ⟨132, 25, 132, 33⟩) ⟨132, 7, 132, 33⟩)
    (.cons (.ret (.bcall .tuple 84 ⟨133, 15, 133, 20⟩ (.cons (.idx (.lv 112 ⟨133, 21, 133, 28⟩) (.int 2 0 ⟨133, 29, 133, 30⟩) ⟨133, 21, 133, 31⟩) .nil) ⟨133, 15, 133, 32⟩) ⟨133, 8, 133, 32⟩)
    .nil)
    .nil ⟨132, 4, 133, 32⟩)
    (.cons (.ret (.ite (.cmp .eq (.idx (.lv 147 ⟨134, 28, 134, 39⟩) (.int 0 0 ⟨134, 40, 134, 41⟩) ⟨134, 28, 134, 42⟩) (.str 61 0 ⟨134, 46, 134, 53⟩) ⟨134, 28, 134, 53⟩) (.tup (.cons (.idx (.lv 112 ⟨134, 12, 134, 19⟩) (.int 2 0 ⟨134, 20, 134, 21⟩) ⟨134, 12, 134, 22⟩) .nil) 0 ⟨134, 11, 134, 24⟩) (.none 0 ⟨134, 59, 134, 63⟩) ⟨134, 11, 134, 63⟩) ⟨134, 4, 134, 63⟩)
    .nil)))))))⟩
noncomputable def f_narrowed : Fn := ⟨[49, 147, 46], ⟨[49, 147, 46, 66, 26, 53], [], [83, 84]⟩,
    (.cons (.asg 66 ⟨136, 4, 136, 9⟩ (.lst .nil ⟨136, 12, 136, 14⟩) ⟨136, 4, 136, 14⟩)
    (.cons (.forS (.one 26 ⟨137, 8, 137, 11⟩) (.over (.lv 49 ⟨137, 15, 137, 19⟩))
    (.cons (.asg 53 ⟨138, 8, 138, 12⟩ (.call 83 ⟨138, 15, 138, 20⟩ (.cons (.idx (.lv 26 ⟨138, 21, 138, 24⟩) (.int 0 0 ⟨138, 25, 138, 26⟩) ⟨138, 21, 138, 27⟩) (.cons (.lv 147 ⟨138, 29, 138, 40⟩) (.cons (.lv 46 ⟨138, 42, 138, 46⟩) .nil))) ⟨138, 15, 138, 47⟩) ⟨138, 8, 138, 47⟩)
    (.cons (.ifS (.cmp .isnot (.lv 53 ⟨139, 11, 139, 15⟩) (.none 0 ⟨139, 23, 139, 27⟩) ⟨139, 11, 139, 27⟩)
    (.cons (.expr (.meth (.lv 66 ⟨140, 12, 140, 17⟩) .append ⟨140, 12, 140, 24⟩ (.cons (.bin .add (.lv 53 ⟨140, 25, 140, 29⟩) (.bcall .tuple 84 ⟨140, 32, 140, 37⟩ (.cons (.slc (.lv 26 ⟨140, 38, 140, 41⟩) (.yes (.int 1 0 ⟨140, 42, 140, 43⟩)) .no ⟨140, 42, 140, 44⟩ ⟨140, 38, 140, 45⟩) .nil) ⟨140, 32, 140, 46⟩) ⟨140, 25, 140, 46⟩) .nil) ⟨140, 12, 140, 47⟩) ⟨140, 12, 140, 47⟩)
    .nil)
    .nil ⟨139, 8, 140, 47⟩)
    .nil)) ⟨137, 4, 140, 47⟩)
    (.cons (.ret (.lv 66 ⟨141, 11, 141, 16⟩) ⟨141, 4, 141, 16⟩)
    .nil)))⟩
noncomputable def f_rest_of : Fn := ⟨[49], ⟨[49], [], []⟩,
    (.cons (.ret (.comp (.bcall .tuple 84 ⟨143, 12, 143, 17⟩ (.cons (.slc (.lv 26 ⟨143, 18, 143, 21⟩) (.yes (.int 1 0 ⟨143, 22, 143, 23⟩)) .no ⟨143, 22, 143, 24⟩ ⟨143, 18, 143, 25⟩) .nil) ⟨143, 12, 143, 26⟩) (.one 26 ⟨143, 31, 143, 34⟩) (.lv 49 ⟨143, 38, 143, 42⟩) (.yes (.cmp .eq (.idx (.idx (.lv 26 ⟨143, 46, 143, 49⟩) (.int 0 0 ⟨143, 50, 143, 51⟩) ⟨143, 46, 143, 52⟩) (.int 0 0 ⟨143, 53, 143, 54⟩) ⟨143, 46, 143, 55⟩) (.str 55 0 ⟨143, 59, 143, 65⟩) ⟨143, 46, 143, 65⟩)) [(7, .local), (26, .local), (84, .globalImplicit)] ⟨[26], [], [84]⟩ [] ⟨143, 11, 143, 66⟩) ⟨143, 4, 143, 66⟩)
    .nil)⟩
noncomputable def f_are_wild : Fn := ⟨[49], ⟨[49], [], []⟩,
    (.cons (.ret (.cmp .eq (.comp (.lv 26 ⟨145, 12, 145, 15⟩) (.one 26 ⟨145, 20, 145, 23⟩) (.lv 49 ⟨145, 27, 145, 31⟩) (.yes (.cmp .ne (.idx (.idx (.lv 26 ⟨145, 35, 145, 38⟩) (.int 0 0 ⟨145, 39, 145, 40⟩) ⟨145, 35, 145, 41⟩) (.int 0 0 ⟨145, 42, 145, 43⟩) ⟨145, 35, 145, 44⟩) (.str 55 0 ⟨145, 48, 145, 54⟩) ⟨145, 35, 145, 54⟩)) [(7, .local), (26, .local)] ⟨[26], [], []⟩ [] ⟨145, 11, 145, 55⟩) (.lst .nil ⟨145, 59, 145, 61⟩) ⟨145, 11, 145, 61⟩) ⟨145, 4, 145, 61⟩)
    .nil)⟩
noncomputable def f_is_useful : Fn := ⟨[49, 26, 85, 89], ⟨[49, 26, 85, 89, 24, 66], [], [99, 118, 139, 140, 113, 154]⟩,
    (.cons (.ifS (.cmp .eq (.lv 85 ⟨147, 7, 147, 12⟩) (.lst .nil ⟨147, 16, 147, 18⟩) ⟨147, 7, 147, 18⟩)
    (.cons (.ret (.cmp .eq (.lv 49 ⟨148, 15, 148, 19⟩) (.lst .nil ⟨148, 23, 148, 25⟩) ⟨148, 15, 148, 25⟩) ⟨148, 8, 148, 25⟩)
    .nil)
    .nil ⟨147, 4, 148, 25⟩)
    (.cons (.asg 49 ⟨149, 4, 149, 8⟩ (.call 99 ⟨149, 11, 149, 17⟩ (.cons (.lv 49 ⟨149, 18, 149, 22⟩) .nil) ⟨149, 11, 149, 23⟩) ⟨149, 4, 149, 23⟩)
    (.cons (.forS (.one 24 ⟨150, 8, 150, 11⟩) (.over (.call 99 ⟨150, 15, 150, 21⟩ (.cons (.lst (.cons (.lv 26 ⟨150, 23, 150, 26⟩) .nil) ⟨150, 22, 150, 27⟩) .nil) ⟨150, 15, 150, 28⟩))
    (.cons (.ifS (.call 118 ⟨151, 11, 151, 19⟩ (.cons (.bin .add (.lv 49 ⟨151, 20, 151, 24⟩) (.lst (.cons (.lv 24 ⟨151, 28, 151, 31⟩) .nil) ⟨151, 27, 151, 32⟩) ⟨151, 20, 151, 32⟩) .nil) ⟨151, 11, 151, 33⟩)
    (.cons (.asg 66 ⟨152, 12, 152, 17⟩ (.and (.cons (.call 139 ⟨152, 20, 152, 29⟩ (.cons (.idx (.lv 85 ⟨152, 30, 152, 35⟩) (.int 0 0 ⟨152, 36, 152, 37⟩) ⟨152, 30, 152, 38⟩) (.cons (.lv 89 ⟨152, 40, 152, 45⟩) (.cons (.tup .nil 0 ⟨152, 47, 152, 49⟩) .nil))) ⟨152, 20, 152, 50⟩) (.cons (.call 140 ⟨152, 55, 152, 64⟩ (.cons (.call 113 ⟨152, 65, 152, 72⟩ (.cons (.lv 49 ⟨152, 73, 152, 77⟩) .nil) ⟨152, 65, 152, 78⟩) (.cons (.slc (.lv 24 ⟨152, 80, 152, 83⟩) (.yes (.int 1 0 ⟨152, 84, 152, 85⟩)) .no ⟨152, 84, 152, 86⟩ ⟨152, 80, 152, 87⟩) (.cons (.slc (.lv 85 ⟨152, 89, 152, 94⟩) (.yes (.int 1 0 ⟨152, 95, 152, 96⟩)) .no ⟨152, 95, 152, 97⟩ ⟨152, 89, 152, 98⟩) (.cons (.lv 89 ⟨152, 100, 152, 105⟩) .nil)))) ⟨152, 55, 152, 106⟩) .nil)) ⟨152, 20, 152, 106⟩) ⟨152, 12, 152, 106⟩)
    .nil)
    (.cons (.asg 66 ⟨154, 12, 154, 17⟩ (.call 154 ⟨154, 20, 154, 38⟩ (.cons (.lv 49 ⟨154, 39, 154, 43⟩) (.cons (.lv 24 ⟨154, 45, 154, 48⟩) (.cons (.lv 85 ⟨154, 50, 154, 55⟩) (.cons (.lv 89 ⟨154, 57, 154, 62⟩) .nil)))) ⟨154, 20, 154, 63⟩) ⟨154, 12, 154, 63⟩)
    .nil) ⟨151, 8, 154, 63⟩)
    (.cons (.ifS (.lv 66 ⟨155, 11, 155, 16⟩)
    (.cons (.ret (.bool true 0 ⟨156, 19, 156, 23⟩) ⟨156, 12, 156, 23⟩)
    .nil)
    .nil ⟨155, 8, 156, 23⟩)
    .nil)) ⟨150, 4, 156, 23⟩)
    (.cons (.ret (.bool false 0 ⟨157, 11, 157, 16⟩) ⟨157, 4, 157, 16⟩)
    .nil))))⟩
noncomputable def f_is_useful_by_parts : Fn := ⟨[49, 26, 85, 89], ⟨[49, 26, 85, 89, 68, 147, 70, 53, 93], [], [149, 156, 123, 19, 140, 44]⟩,
    (.cons (.asg 68 ⟨159, 4, 159, 9⟩ (.bin .add (.comp (.idx (.lv 77 ⟨159, 13, 159, 18⟩) (.int 0 0 ⟨159, 19, 159, 20⟩) ⟨159, 13, 159, 21⟩) (.one 77 ⟨159, 26, 159, 31⟩) (.lv 49 ⟨159, 35, 159, 39⟩) .no [(7, .local), (77, .local)] ⟨[77], [], []⟩ [] ⟨159, 12, 159, 40⟩) (.lst (.cons (.idx (.lv 26 ⟨159, 44, 159, 47⟩) (.int 0 0 ⟨159, 48, 159, 49⟩) ⟨159, 44, 159, 50⟩) .nil) ⟨159, 43, 159, 51⟩) ⟨159, 12, 159, 51⟩) ⟨159, 4, 159, 51⟩)
    (.cons (.forS (.one 147 ⟨160, 8, 160, 19⟩) (.over (.call 149 ⟨160, 23, 160, 35⟩ (.cons (.idx (.lv 85 ⟨160, 36, 160, 41⟩) (.int 0 0 ⟨160, 42, 160, 43⟩) ⟨160, 36, 160, 44⟩) (.cons (.lv 68 ⟨160, 46, 160, 51⟩) (.cons (.lv 89 ⟨160, 53, 160, 58⟩) .nil))) ⟨160, 23, 160, 59⟩))
    (.cons (.asg 70 ⟨161, 8, 161, 13⟩ (.call 156 ⟨161, 16, 161, 35⟩ (.cons (.idx (.lv 85 ⟨161, 36, 161, 41⟩) (.int 0 0 ⟨161, 42, 161, 43⟩) ⟨161, 36, 161, 44⟩) (.cons (.lv 147 ⟨161, 46, 161, 57⟩) (.cons (.lv 89 ⟨161, 59, 161, 64⟩) .nil))) ⟨161, 16, 161, 65⟩) ⟨161, 8, 161, 65⟩)
    (.cons (.asg 53 ⟨162, 8, 162, 12⟩ (.call 123 ⟨162, 15, 162, 23⟩ (.cons (.lst (.cons (.lv 26 ⟨162, 25, 162, 28⟩) .nil) ⟨162, 24, 162, 29⟩) (.cons (.lv 147 ⟨162, 31, 162, 42⟩) (.cons (.bcall .len 19 ⟨162, 44, 162, 47⟩ (.cons (.lv 70 ⟨162, 48, 162, 53⟩) .nil) ⟨162, 44, 162, 54⟩) .nil))) ⟨162, 15, 162, 55⟩) ⟨162, 8, 162, 55⟩)
    (.cons (.ifS (.cmp .ne (.lv 53 ⟨163, 11, 163, 15⟩) (.lst .nil ⟨163, 19, 163, 21⟩) ⟨163, 11, 163, 21⟩)
    (.cons (.asg 93 ⟨164, 12, 164, 18⟩ (.call 123 ⟨164, 21, 164, 29⟩ (.cons (.lv 49 ⟨164, 30, 164, 34⟩) (.cons (.lv 147 ⟨164, 36, 164, 47⟩) (.cons (.bcall .len 19 ⟨164, 49, 164, 52⟩ (.cons (.lv 70 ⟨164, 53, 164, 58⟩) .nil) ⟨164, 49, 164, 59⟩) .nil))) ⟨164, 21, 164, 60⟩) ⟨164, 12, 164, 60⟩)
    (.cons (.ifS (.call 140 ⟨165, 15, 165, 24⟩ (.cons (.lv 93 ⟨165, 25, 165, 31⟩) (.cons (.idx (.lv 53 ⟨165, 33, 165, 37⟩) (.int 0 0 ⟨165, 38, 165, 39⟩) ⟨165, 33, 165, 40⟩) (.cons (.bin .add (.lv 70 ⟨165, 42, 165, 47⟩) (.bcall .list 44 ⟨165, 50, 165, 54⟩ (.cons (.slc (.lv 85 ⟨165, 55, 165, 60⟩) (.yes (.int 1 0 ⟨165, 61, 165, 62⟩)) .no ⟨165, 61, 165, 63⟩ ⟨165, 55, 165, 64⟩) .nil) ⟨165, 50, 165, 65⟩) ⟨165, 42, 165, 65⟩) (.cons (.lv 89 ⟨165, 67, 165, 72⟩) .nil)))) ⟨165, 15, 165, 73⟩)
    (.cons (.ret (.bool true 0 ⟨166, 23, 166, 27⟩) ⟨166, 16, 166, 27⟩)
    .nil)
    .nil ⟨165, 12, 166, 27⟩)
    .nil))
    .nil ⟨163, 8, 166, 27⟩)
    .nil))) ⟨160, 4, 166, 27⟩)
    (.cons (.ret (.bool false 0 ⟨167, 11, 167, 16⟩) ⟨167, 4, 167, 16⟩)
    .nil)))⟩
noncomputable def f_rebuilt : Fn := ⟨[5, 147, 80], ⟨[5, 147, 80, 40], [], [84]⟩,
    (.cons (.asg 40 ⟨169, 4, 169, 8⟩ (.idx (.lv 147 ⟨169, 11, 169, 22⟩) (.int 0 0 ⟨169, 23, 169, 24⟩) ⟨169, 11, 169, 25⟩) ⟨169, 4, 169, 25⟩)
    (.cons (.ifS (.cmp .eq (.lv 40 ⟨170, 7, 170, 11⟩) (.str 115 0 ⟨170, 15, 170, 24⟩) ⟨170, 7, 170, 24⟩)
    (.cons (.ret (.tup (.cons (.str 115 0 ⟨171, 16, 171, 25⟩) (.cons (.lv 5 ⟨171, 27, 171, 28⟩) (.cons (.idx (.lv 147 ⟨171, 30, 171, 41⟩) (.int 1 0 ⟨171, 42, 171, 43⟩) ⟨171, 30, 171, 44⟩) (.cons (.bcall .tuple 84 ⟨171, 46, 171, 51⟩ (.cons (.lv 80 ⟨171, 52, 171, 57⟩) .nil) ⟨171, 46, 171, 58⟩) .nil)))) 0 ⟨171, 15, 171, 59⟩) ⟨171, 8, 171, 59⟩)
    .nil)
    .nil ⟨170, 4, 171, 59⟩)
    (.cons (.ifS (.cmp .eq (.lv 40 ⟨172, 7, 172, 11⟩) (.str 96 0 ⟨172, 15, 172, 23⟩) ⟨172, 7, 172, 23⟩)
    (.cons (.ret (.tup (.cons (.str 96 0 ⟨173, 16, 173, 24⟩) (.cons (.lv 5 ⟨173, 26, 173, 27⟩) (.cons (.bcall .tuple 84 ⟨173, 29, 173, 34⟩ (.cons (.lv 80 ⟨173, 35, 173, 40⟩) .nil) ⟨173, 29, 173, 41⟩) .nil))) 0 ⟨173, 15, 173, 42⟩) ⟨173, 8, 173, 42⟩)
    .nil)
    .nil ⟨172, 4, 173, 42⟩)
    (.cons (.ifS (.cmp .eq (.lv 40 ⟨174, 7, 174, 11⟩) (.str 61 0 ⟨174, 15, 174, 22⟩) ⟨174, 7, 174, 22⟩)
    (.cons (.ret (.tup (.cons (.str 61 0 ⟨175, 16, 175, 23⟩) (.cons (.lv 5 ⟨175, 25, 175, 26⟩) (.cons (.idx (.lv 80 ⟨175, 28, 175, 33⟩) (.int 0 0 ⟨175, 34, 175, 35⟩) ⟨175, 28, 175, 36⟩) .nil))) 0 ⟨175, 15, 175, 37⟩) ⟨175, 8, 175, 37⟩)
    .nil)
    .nil ⟨174, 4, 175, 37⟩)
    (.cons (.ifS (.cmp .eq (.lv 40 ⟨176, 7, 176, 11⟩) (.str 34 0 ⟨176, 15, 176, 21⟩) ⟨176, 7, 176, 21⟩)
    (.cons (.ret (.tup (.cons (.str 60 0 ⟨177, 16, 177, 23⟩) (.cons (.lv 5 ⟨177, 25, 177, 26⟩) (.cons (.idx (.lv 147 ⟨177, 28, 177, 39⟩) (.int 1 0 ⟨177, 40, 177, 41⟩) ⟨177, 28, 177, 42⟩) .nil))) 0 ⟨177, 15, 177, 43⟩) ⟨177, 8, 177, 43⟩)
    .nil)
    .nil ⟨176, 4, 177, 43⟩)
    (.cons (.ifS (.cmp .eq (.lv 40 ⟨178, 7, 178, 11⟩) (.str 77 0 ⟨178, 15, 178, 22⟩) ⟨178, 7, 178, 22⟩)
    (.cons (.ret (.tup (.cons (.str 55 0 ⟨179, 16, 179, 22⟩) (.cons (.lv 5 ⟨179, 24, 179, 25⟩) .nil)) 0 ⟨179, 15, 179, 26⟩) ⟨179, 8, 179, 26⟩)
    .nil)
    .nil ⟨178, 4, 179, 26⟩)
    (.cons (.ifS (.cmp .eq (.idx (.lv 147 ⟨180, 7, 180, 18⟩) (.int 1 0 ⟨180, 19, 180, 20⟩) ⟨180, 7, 180, 21⟩) (.idx (.lv 147 ⟨180, 25, 180, 36⟩) (.int 2 0 ⟨180, 37, 180, 38⟩) ⟨180, 25, 180, 39⟩) ⟨180, 7, 180, 39⟩)
    (.cons (.ret (.tup (.cons (.str 60 0 ⟨181, 16, 181, 23⟩) (.cons (.lv 5 ⟨181, 25, 181, 26⟩) (.cons (.idx (.lv 147 ⟨181, 28, 181, 39⟩) (.int 1 0 ⟨181, 40, 181, 41⟩) ⟨181, 28, 181, 42⟩) .nil))) 0 ⟨181, 15, 181, 43⟩) ⟨181, 8, 181, 43⟩)
    .nil)
    .nil ⟨180, 4, 181, 43⟩)
    (.cons (.ret (.tup (.cons (.str 82 0 ⟨182, 12, 182, 19⟩) (.cons (.lv 5 ⟨182, 21, 182, 22⟩) (.cons (.idx (.lv 147 ⟨182, 24, 182, 35⟩) (.int 1 0 ⟨182, 36, 182, 37⟩) ⟨182, 24, 182, 38⟩) (.cons (.idx (.lv 147 ⟨182, 40, 182, 51⟩) (.int 2 0 ⟨182, 52, 182, 53⟩) ⟨182, 40, 182, 54⟩) .nil)))) 0 ⟨182, 11, 182, 55⟩) ⟨182, 4, 182, 55⟩)
    .nil))))))))⟩
noncomputable def f_left_out : Fn := ⟨[49, 85, 89], ⟨[49, 85, 89, 5, 68, 147, 70, 66], [], [99, 118, 151, 149, 156, 122, 123, 19, 44, 155]⟩,
    (.cons (.ifS (.cmp .eq (.lv 85 ⟨185, 7, 185, 12⟩) (.lst .nil ⟨185, 16, 185, 18⟩) ⟨185, 7, 185, 18⟩)
    (.cons (.ret (.ite (.cmp .eq (.lv 49 ⟨186, 21, 186, 25⟩) (.lst .nil ⟨186, 29, 186, 31⟩) ⟨186, 21, 186, 31⟩) (.lst .nil ⟨186, 15, 186, 17⟩) (.none 0 ⟨186, 37, 186, 41⟩) ⟨186, 15, 186, 41⟩) ⟨186, 8, 186, 41⟩)
    .nil)
    .nil ⟨185, 4, 186, 41⟩)
    (.cons (.asg 49 ⟨187, 4, 187, 8⟩ (.call 99 ⟨187, 11, 187, 17⟩ (.cons (.lv 49 ⟨187, 18, 187, 22⟩) .nil) ⟨187, 11, 187, 23⟩) ⟨187, 4, 187, 23⟩)
    (.cons (.asgT [(5, ⟨188, 4, 188, 5⟩), (68, ⟨188, 7, 188, 12⟩)] 0 ⟨188, 4, 188, 12⟩ (.tup (.cons (.idx (.lv 85 ⟨188, 16, 188, 21⟩) (.int 0 0 ⟨188, 22, 188, 23⟩) ⟨188, 16, 188, 24⟩) (.cons (.comp (.idx (.lv 26 ⟨188, 27, 188, 30⟩) (.int 0 0 ⟨188, 31, 188, 32⟩) ⟨188, 27, 188, 33⟩) (.one 26 ⟨188, 38, 188, 41⟩) (.lv 49 ⟨188, 45, 188, 49⟩) .no [(7, .local), (26, .local)] ⟨[26], [], []⟩ [] ⟨188, 26, 188, 50⟩) .nil)) 0 ⟨188, 15, 188, 51⟩) ⟨188, 4, 188, 51⟩)
    (.cons (.ifS (.call 118 ⟨189, 7, 189, 15⟩ (.cons (.lv 49 ⟨189, 16, 189, 20⟩) .nil) ⟨189, 7, 189, 21⟩)
    (.cons (.ret (.call 151 ⟨190, 15, 190, 28⟩ (.cons (.lv 49 ⟨190, 29, 190, 33⟩) (.cons (.lv 85 ⟨190, 35, 190, 40⟩) (.cons (.lv 89 ⟨190, 42, 190, 47⟩) .nil))) ⟨190, 15, 190, 48⟩) ⟨190, 8, 190, 48⟩)
    .nil)
    .nil ⟨189, 4, 190, 48⟩)
    (.cons (.forS (.one 147 ⟨191, 8, 191, 19⟩) (.over (.call 149 ⟨191, 23, 191, 35⟩ (.cons (.lv 5 ⟨191, 36, 191, 37⟩) (.cons (.lv 68 ⟨191, 39, 191, 44⟩) (.cons (.lv 89 ⟨191, 46, 191, 51⟩) .nil))) ⟨191, 23, 191, 52⟩))
    (.cons (.asg 70 ⟨192, 8, 192, 13⟩ (.call 156 ⟨192, 16, 192, 35⟩ (.cons (.lv 5 ⟨192, 36, 192, 37⟩) (.cons (.lv 147 ⟨192, 39, 192, 50⟩) (.cons (.lv 89 ⟨192, 52, 192, 57⟩) .nil))) ⟨192, 16, 192, 58⟩) ⟨192, 8, 192, 58⟩)
    (.cons (.asg 66 ⟨193, 8, 193, 13⟩ (.call 122 ⟨193, 16, 193, 24⟩ (.cons (.call 123 ⟨193, 25, 193, 33⟩ (.cons (.lv 49 ⟨193, 34, 193, 38⟩) (.cons (.lv 147 ⟨193, 40, 193, 51⟩) (.cons (.bcall .len 19 ⟨193, 53, 193, 56⟩ (.cons (.lv 70 ⟨193, 57, 193, 62⟩) .nil) ⟨193, 53, 193, 63⟩) .nil))) ⟨193, 25, 193, 64⟩) (.cons (.bin .add (.lv 70 ⟨193, 66, 193, 71⟩) (.bcall .list 44 ⟨193, 74, 193, 78⟩ (.cons (.slc (.lv 85 ⟨193, 79, 193, 84⟩) (.yes (.int 1 0 ⟨193, 85, 193, 86⟩)) .no ⟨193, 85, 193, 87⟩ ⟨193, 79, 193, 88⟩) .nil) ⟨193, 74, 193, 89⟩) ⟨193, 66, 193, 89⟩) (.cons (.lv 89 ⟨193, 91, 193, 96⟩) .nil))) ⟨193, 16, 193, 97⟩) ⟨193, 8, 193, 97⟩)
    (.cons (.ifS (.cmp .isnot (.lv 66 ⟨194, 11, 194, 16⟩) (.none 0 ⟨194, 24, 194, 28⟩) ⟨194, 11, 194, 28⟩)
    (.cons (.ret (.bin .add (.lst (.cons (.call 155 ⟨195, 20, 195, 38⟩ (.cons (.lv 5 ⟨195, 39, 195, 40⟩) (.cons (.lv 147 ⟨195, 42, 195, 53⟩) (.cons (.slc (.lv 66 ⟨195, 55, 195, 60⟩) .no (.yes (.bcall .len 19 ⟨195, 62, 195, 65⟩ (.cons (.lv 70 ⟨195, 66, 195, 71⟩) .nil) ⟨195, 62, 195, 72⟩)) ⟨195, 61, 195, 72⟩ ⟨195, 55, 195, 73⟩) .nil))) ⟨195, 20, 195, 74⟩) .nil) ⟨195, 19, 195, 75⟩) (.slc (.lv 66 ⟨195, 78, 195, 83⟩) (.yes (.bcall .len 19 ⟨195, 84, 195, 87⟩ (.cons (.lv 70 ⟨195, 88, 195, 93⟩) .nil) ⟨195, 84, 195, 94⟩)) .no ⟨195, 84, 195, 95⟩ ⟨195, 78, 195, 96⟩) ⟨195, 19, 195, 96⟩) ⟨195, 12, 195, 96⟩)
    .nil)
    .nil ⟨194, 8, 195, 96⟩)
    .nil))) ⟨191, 4, 195, 96⟩)
    (.cons (.ret (.none 0 ⟨196, 11, 196, 15⟩) ⟨196, 4, 196, 15⟩)
    .nil))))))⟩
noncomputable def f_left_out_wild : Fn := ⟨[49, 85, 89], ⟨[49, 85, 89, 66], [], [139, 122, 113]⟩,
    (.cons (.ifS (.not (.call 139 ⟨198, 11, 198, 20⟩ (.cons (.idx (.lv 85 ⟨198, 21, 198, 26⟩) (.int 0 0 ⟨198, 27, 198, 28⟩) ⟨198, 21, 198, 29⟩) (.cons (.lv 89 ⟨198, 31, 198, 36⟩) (.cons (.tup .nil 0 ⟨198, 38, 198, 40⟩) .nil))) ⟨198, 11, 198, 41⟩) ⟨198, 7, 198, 41⟩)
    (.cons (.ret (.none 0 ⟨199, 15, 199, 19⟩) ⟨199, 8, 199, 19⟩)
    .nil)
    .nil ⟨198, 4, 199, 19⟩)
    (.cons (.asg 66 ⟨200, 4, 200, 9⟩ (.call 122 ⟨200, 12, 200, 20⟩ (.cons (.call 113 ⟨200, 21, 200, 28⟩ (.cons (.lv 49 ⟨200, 29, 200, 33⟩) .nil) ⟨200, 21, 200, 34⟩) (.cons (.slc (.lv 85 ⟨200, 36, 200, 41⟩) (.yes (.int 1 0 ⟨200, 42, 200, 43⟩)) .no ⟨200, 42, 200, 44⟩ ⟨200, 36, 200, 45⟩) (.cons (.lv 89 ⟨200, 47, 200, 52⟩) .nil))) ⟨200, 12, 200, 53⟩) ⟨200, 4, 200, 53⟩)
    (.cons (.ret (.ite (.cmp .is (.lv 66 ⟨201, 19, 201, 24⟩) (.none 0 ⟨201, 28, 201, 32⟩) ⟨201, 19, 201, 32⟩) (.none 0 ⟨201, 11, 201, 15⟩) (.bin .add (.lst (.cons (.tup (.cons (.str 55 0 ⟨201, 40, 201, 46⟩) (.cons (.idx (.lv 85 ⟨201, 48, 201, 53⟩) (.int 0 0 ⟨201, 54, 201, 55⟩) ⟨201, 48, 201, 56⟩) .nil)) 0 ⟨201, 39, 201, 57⟩) .nil) ⟨201, 38, 201, 58⟩) (.lv 66 ⟨201, 61, 201, 66⟩) ⟨201, 38, 201, 66⟩) ⟨201, 11, 201, 66⟩) ⟨201, 4, 201, 66⟩)
    .nil)))⟩
noncomputable def f_has_value : Fn := ⟨[5, 89, 91], ⟨[147, 109], [5, 89, 91], [19, 129, 149, 156]⟩,
    (.cons (.ifS (.cmp .in_ (.lv 5 ⟨203, 7, 203, 8⟩) (.lv 91 ⟨203, 12, 203, 18⟩) ⟨203, 7, 203, 18⟩)
    (.cons (.ret (.bool false 0 ⟨204, 15, 204, 20⟩) ⟨204, 8, 204, 20⟩)
    .nil)
    .nil ⟨203, 4, 204, 20⟩)
    (.cons (.ifS (.cmp .ge (.bcall .len 19 ⟨205, 7, 205, 10⟩ (.cons (.lv 91 ⟨205, 11, 205, 17⟩) .nil) ⟨205, 7, 205, 18⟩) (.gi 129 ⟨205, 22, 205, 31⟩) ⟨205, 7, 205, 31⟩)
    (.cons (.ret (.bool true 0 ⟨206, 15, 206, 19⟩) ⟨206, 8, 206, 19⟩)
    .nil)
    .nil ⟨205, 4, 206, 19⟩)
    (.cons (.forS (.one 147 ⟨207, 8, 207, 19⟩) (.over (.call 149 ⟨207, 23, 207, 35⟩ (.cons (.lv 5 ⟨207, 36, 207, 37⟩) (.cons (.lst .nil ⟨207, 39, 207, 41⟩) (.cons (.lv 89 ⟨207, 43, 207, 48⟩) .nil))) ⟨207, 23, 207, 49⟩))
    (.cons (.asg 109 ⟨208, 8, 208, 15⟩ (.comp (.lv 24 ⟨208, 19, 208, 22⟩) (.one 24 ⟨208, 27, 208, 30⟩) (.call 156 ⟨208, 34, 208, 53⟩ (.cons (.lv 5 ⟨208, 54, 208, 55⟩) (.cons (.lv 147 ⟨208, 57, 208, 68⟩) (.cons (.lv 89 ⟨208, 70, 208, 75⟩) .nil))) ⟨208, 34, 208, 76⟩) (.yes (.not (.call 139 ⟨208, 84, 208, 93⟩ (.cons (.lv 24 ⟨208, 94, 208, 97⟩) (.cons (.lv 89 ⟨208, 99, 208, 104⟩) (.cons (.bin .add (.lv 91 ⟨208, 106, 208, 112⟩) (.tup (.cons (.lv 5 ⟨208, 116, 208, 117⟩) .nil) 0 ⟨208, 115, 208, 119⟩) ⟨208, 106, 208, 119⟩) .nil))) ⟨208, 84, 208, 120⟩) ⟨208, 80, 208, 120⟩)) [(7, .local), (24, .local), (139, .globalImplicit), (91, .free), (5, .free), (89, .free)] ⟨[24], [91, 5, 89], [139]⟩ [91, 5, 89] ⟨208, 18, 208, 121⟩) ⟨208, 8, 208, 121⟩)
    (.cons (.ifS (.cmp .eq (.lv 109 ⟨209, 11, 209, 18⟩) (.lst .nil ⟨209, 22, 209, 24⟩) ⟨209, 11, 209, 24⟩)
    (.cons (.ret (.bool true 0 ⟨210, 19, 210, 23⟩) ⟨210, 12, 210, 23⟩)
    .nil)
    .nil ⟨209, 8, 210, 23⟩)
    .nil)) ⟨207, 4, 210, 23⟩)
    (.cons (.ret (.bool false 0 ⟨211, 11, 211, 16⟩) ⟨211, 4, 211, 16⟩)
    .nil))))⟩
noncomputable def f_missing : Fn := ⟨[125, 5, 89], ⟨[125, 5, 89, 66], [], [122]⟩,
    (.cons (.asg 66 ⟨213, 4, 213, 9⟩ (.call 122 ⟨213, 12, 213, 20⟩ (.cons (.comp (.tup (.cons (.lv 112 ⟨213, 23, 213, 30⟩) .nil) 0 ⟨213, 22, 213, 32⟩) (.one 112 ⟨213, 37, 213, 44⟩) (.lv 125 ⟨213, 48, 213, 56⟩) .no [(7, .local), (112, .local)] ⟨[112], [], []⟩ [] ⟨213, 21, 213, 57⟩) (.cons (.lst (.cons (.lv 5 ⟨213, 60, 213, 61⟩) .nil) ⟨213, 59, 213, 62⟩) (.cons (.lv 89 ⟨213, 64, 213, 69⟩) .nil))) ⟨213, 12, 213, 70⟩) ⟨213, 4, 213, 70⟩)
    (.cons (.ret (.ite (.cmp .is (.lv 66 ⟨214, 19, 214, 24⟩) (.none 0 ⟨214, 28, 214, 32⟩) ⟨214, 19, 214, 32⟩) (.none 0 ⟨214, 11, 214, 15⟩) (.idx (.lv 66 ⟨214, 38, 214, 43⟩) (.int 0 0 ⟨214, 44, 214, 45⟩) ⟨214, 38, 214, 46⟩) ⟨214, 11, 214, 46⟩) ⟨214, 4, 214, 46⟩)
    .nil))⟩
noncomputable def f_useless : Fn := ⟨[30, 5, 89], ⟨[30, 5, 89, 66, 49, 8, 112, 67], [], [82, 19, 140]⟩,
    (.cons (.asgT [(66, ⟨216, 4, 216, 9⟩), (49, ⟨216, 11, 216, 15⟩)] 0 ⟨216, 4, 216, 15⟩ (.tup (.cons (.lst .nil ⟨216, 19, 216, 21⟩) (.cons (.lst .nil ⟨216, 23, 216, 25⟩) .nil)) 0 ⟨216, 18, 216, 26⟩) ⟨216, 4, 216, 26⟩)
    (.cons (.forS (.one 8 ⟨217, 8, 217, 10⟩) (.range 82 ⟨217, 14, 217, 19⟩ (.bcall .len 19 ⟨217, 20, 217, 23⟩ (.cons (.lv 30 ⟨217, 24, 217, 28⟩) .nil) ⟨217, 20, 217, 29⟩) ⟨217, 14, 217, 30⟩)
    (.cons (.asgT [(112, ⟨218, 8, 218, 15⟩), (67, ⟨218, 17, 218, 22⟩)] 0 ⟨218, 8, 218, 22⟩ (.tup (.cons (.idx (.idx (.lv 30 ⟨218, 26, 218, 30⟩) (.lv 8 ⟨218, 31, 218, 33⟩) ⟨218, 26, 218, 34⟩) (.int 0 0 ⟨218, 35, 218, 36⟩) ⟨218, 26, 218, 37⟩) (.cons (.idx (.idx (.lv 30 ⟨218, 39, 218, 43⟩) (.lv 8 ⟨218, 44, 218, 46⟩) ⟨218, 39, 218, 47⟩) (.int 1 0 ⟨218, 48, 218, 49⟩) ⟨218, 39, 218, 50⟩) .nil)) 0 ⟨218, 25, 218, 51⟩) ⟨218, 8, 218, 51⟩)
    (.cons (.ifS (.not (.call 140 ⟨219, 15, 219, 24⟩ (.cons (.lv 49 ⟨219, 25, 219, 29⟩) (.cons (.tup (.cons (.lv 112 ⟨219, 32, 219, 39⟩) .nil) 0 ⟨219, 31, 219, 41⟩) (.cons (.lst (.cons (.lv 5 ⟨219, 44, 219, 45⟩) .nil) ⟨219, 43, 219, 46⟩) (.cons (.lv 89 ⟨219, 48, 219, 53⟩) .nil)))) ⟨219, 15, 219, 54⟩) ⟨219, 11, 219, 54⟩)
    (.cons (.expr (.meth (.lv 66 ⟨220, 12, 220, 17⟩) .append ⟨220, 12, 220, 24⟩ (.cons (.lv 8 ⟨220, 25, 220, 27⟩) .nil) ⟨220, 12, 220, 28⟩) ⟨220, 12, 220, 28⟩)
    .nil)
    .nil ⟨219, 8, 220, 28⟩)
    (.cons (.ifS (.cmp .is (.lv 67 ⟨221, 11, 221, 16⟩) (.none 0 ⟨221, 20, 221, 24⟩) ⟨221, 11, 221, 24⟩)
    (.cons (.expr (.meth (.lv 49 ⟨222, 12, 222, 16⟩) .append ⟨222, 12, 222, 23⟩ (.cons (.tup (.cons (.lv 112 ⟨222, 25, 222, 32⟩) .nil) 0 ⟨222, 24, 222, 34⟩) .nil) ⟨222, 12, 222, 35⟩) ⟨222, 12, 222, 35⟩)
    .nil)
    .nil ⟨221, 8, 222, 35⟩)
    .nil))) ⟨217, 4, 222, 35⟩)
    (.cons (.ret (.lv 66 ⟨223, 11, 223, 16⟩) ⟨223, 4, 223, 16⟩)
    .nil)))⟩
noncomputable def f_inner_of : Fn := ⟨[2], ⟨[2, 40], [], [44, 153, 152]⟩,
    (.cons (.asg 40 ⟨226, 4, 226, 8⟩ (.idx (.lv 2 ⟨226, 11, 226, 12⟩) (.int 0 0 ⟨226, 13, 226, 14⟩) ⟨226, 11, 226, 15⟩) ⟨226, 4, 226, 15⟩)
    (.cons (.ifS (.cmp .in_ (.lv 40 ⟨227, 7, 227, 11⟩) (.tup (.cons (.str 60 0 ⟨227, 16, 227, 23⟩) (.cons (.str 73 0 ⟨227, 25, 227, 32⟩) (.cons (.str 119 0 ⟨227, 34, 227, 44⟩) (.cons (.str 79 0 ⟨227, 46, 227, 53⟩) .nil)))) 0 ⟨227, 15, 227, 54⟩) ⟨227, 7, 227, 54⟩)
    (.cons (.ret (.lst .nil ⟨228, 15, 228, 17⟩) ⟨228, 8, 228, 17⟩)
    .nil)
    .nil ⟨227, 4, 228, 17⟩)
    (.cons (.ifS (.cmp .in_ (.lv 40 ⟨229, 7, 229, 11⟩) (.tup (.cons (.str 35 0 ⟨229, 16, 229, 22⟩) (.cons (.str 84 0 ⟨229, 24, 229, 31⟩) (.cons (.str 57 0 ⟨229, 33, 229, 40⟩) .nil))) 0 ⟨229, 15, 229, 41⟩) ⟨229, 7, 229, 41⟩)
    (.cons (.ret (.bcall .list 44 ⟨230, 15, 230, 19⟩ (.cons (.ite (.cmp .eq (.lv 40 ⟨230, 28, 230, 32⟩) (.str 35 0 ⟨230, 36, 230, 42⟩) ⟨230, 28, 230, 42⟩) (.idx (.lv 2 ⟨230, 20, 230, 21⟩) (.int 4 0 ⟨230, 22, 230, 23⟩) ⟨230, 20, 230, 24⟩) (.idx (.lv 2 ⟨230, 48, 230, 49⟩) (.int 3 0 ⟨230, 50, 230, 51⟩) ⟨230, 48, 230, 52⟩) ⟨230, 20, 230, 52⟩) .nil) ⟨230, 15, 230, 53⟩) ⟨230, 8, 230, 53⟩)
    .nil)
    .nil ⟨229, 4, 230, 53⟩)
    (.cons (.ifS (.cmp .in_ (.lv 40 ⟨231, 7, 231, 11⟩) (.tup (.cons (.str 94 0 ⟨231, 16, 231, 24⟩) (.cons (.str 42 0 ⟨231, 26, 231, 32⟩) .nil)) 0 ⟨231, 15, 231, 33⟩) ⟨231, 7, 231, 33⟩)
    (.cons (.ret (.lst (.cons (.idx (.lv 2 ⟨232, 16, 232, 17⟩) (.int 4 0 ⟨232, 18, 232, 19⟩) ⟨232, 16, 232, 20⟩) (.cons (.idx (.lv 2 ⟨232, 22, 232, 23⟩) (.int 5 0 ⟨232, 24, 232, 25⟩) ⟨232, 22, 232, 26⟩) .nil)) ⟨232, 15, 232, 27⟩) ⟨232, 8, 232, 27⟩)
    .nil)
    .nil ⟨231, 4, 232, 27⟩)
    (.cons (.ifS (.cmp .eq (.lv 40 ⟨233, 7, 233, 11⟩) (.str 107 0 ⟨233, 15, 233, 23⟩) ⟨233, 7, 233, 23⟩)
    (.cons (.ret (.lst (.cons (.idx (.lv 2 ⟨234, 16, 234, 17⟩) (.int 4 0 ⟨234, 18, 234, 19⟩) ⟨234, 16, 234, 20⟩) (.cons (.idx (.lv 2 ⟨234, 22, 234, 23⟩) (.int 5 0 ⟨234, 24, 234, 25⟩) ⟨234, 22, 234, 26⟩) .nil)) ⟨234, 15, 234, 27⟩) ⟨234, 8, 234, 27⟩)
    .nil)
    .nil ⟨233, 4, 234, 27⟩)
    (.cons (.ifS (.cmp .in_ (.lv 40 ⟨235, 7, 235, 11⟩) (.tup (.cons (.str 86 0 ⟨235, 16, 235, 23⟩) (.cons (.str 95 0 ⟨235, 25, 235, 33⟩) (.cons (.str 59 0 ⟨235, 35, 235, 42⟩) .nil))) 0 ⟨235, 15, 235, 43⟩) ⟨235, 7, 235, 43⟩)
    (.cons (.ret (.ite (.cmp .isnot (.idx (.lv 2 ⟨236, 25, 236, 26⟩) (.int 4 0 ⟨236, 27, 236, 28⟩) ⟨236, 25, 236, 29⟩) (.none 0 ⟨236, 37, 236, 41⟩) ⟨236, 25, 236, 41⟩) (.lst (.cons (.idx (.lv 2 ⟨236, 16, 236, 17⟩) (.int 4 0 ⟨236, 18, 236, 19⟩) ⟨236, 16, 236, 20⟩) .nil) ⟨236, 15, 236, 21⟩) (.lst .nil ⟨236, 47, 236, 49⟩) ⟨236, 15, 236, 49⟩) ⟨236, 8, 236, 49⟩)
    .nil)
    .nil ⟨235, 4, 236, 49⟩)
    (.cons (.ifS (.cmp .in_ (.lv 40 ⟨237, 7, 237, 11⟩) (.tup (.cons (.str 61 0 ⟨237, 16, 237, 23⟩) (.cons (.str 64 0 ⟨237, 25, 237, 32⟩) (.cons (.str 16 0 ⟨237, 34, 237, 39⟩) (.cons (.str 36 0 ⟨237, 41, 237, 47⟩) (.cons (.str 81 0 ⟨237, 49, 237, 56⟩) (.cons (.str 101 0 ⟨237, 58, 237, 66⟩) .nil)))))) 0 ⟨237, 15, 237, 67⟩) ⟨237, 7, 237, 67⟩)
    (.cons (.ret (.lst (.cons (.idx (.lv 2 ⟨238, 16, 238, 17⟩) (.int 3 0 ⟨238, 18, 238, 19⟩) ⟨238, 16, 238, 20⟩) .nil) ⟨238, 15, 238, 21⟩) ⟨238, 8, 238, 21⟩)
    .nil)
    .nil ⟨237, 4, 238, 21⟩)
    (.cons (.ifS (.cmp .in_ (.lv 40 ⟨239, 7, 239, 11⟩) (.tup (.cons (.str 69 0 ⟨239, 16, 239, 23⟩) (.cons (.str 92 0 ⟨239, 25, 239, 33⟩) .nil)) 0 ⟨239, 15, 239, 34⟩) ⟨239, 7, 239, 34⟩)
    (.cons (.ret (.lst (.cons (.idx (.lv 2 ⟨240, 16, 240, 17⟩) (.int 3 0 ⟨240, 18, 240, 19⟩) ⟨240, 16, 240, 20⟩) (.cons (.idx (.lv 2 ⟨240, 22, 240, 23⟩) (.int 4 0 ⟨240, 24, 240, 25⟩) ⟨240, 22, 240, 26⟩) .nil)) ⟨240, 15, 240, 27⟩) ⟨240, 8, 240, 27⟩)
    .nil)
    .nil ⟨239, 4, 240, 27⟩)
    (.cons (.ifS (.cmp .eq (.lv 40 ⟨241, 7, 241, 11⟩) (.str 13 0 ⟨241, 15, 241, 20⟩) ⟨241, 7, 241, 20⟩)
    (.cons (.ret (.comp (.lv 70 ⟨242, 16, 242, 21⟩) (.many [(4, ⟨242, 26, 242, 27⟩), (70, ⟨242, 29, 242, 34⟩)] 0 ⟨242, 26, 242, 34⟩) (.idx (.lv 2 ⟨242, 38, 242, 39⟩) (.int 4 0 ⟨242, 40, 242, 41⟩) ⟨242, 38, 242, 42⟩) .no [(7, .local), (4, .local), (70, .local)] ⟨[4, 70], [], []⟩ [] ⟨242, 15, 242, 43⟩) ⟨242, 8, 242, 43⟩)
    .nil)
    .nil ⟨241, 4, 242, 43⟩)
    (.cons (.ifS (.cmp .eq (.lv 40 ⟨243, 7, 243, 11⟩) (.str 10 0 ⟨243, 15, 243, 19⟩) ⟨243, 7, 243, 19⟩)
    (.cons (.ret (.comp (.lv 24 ⟨244, 16, 244, 19⟩) (.one 24 ⟨244, 24, 244, 27⟩) (.slc (.lv 2 ⟨244, 31, 244, 32⟩) (.yes (.int 3 0 ⟨244, 33, 244, 34⟩)) (.yes (.int 6 0 ⟨244, 35, 244, 36⟩)) ⟨244, 33, 244, 36⟩ ⟨244, 31, 244, 37⟩) (.yes (.cmp .isnot (.lv 24 ⟨244, 41, 244, 44⟩) (.none 0 ⟨244, 52, 244, 56⟩) ⟨244, 41, 244, 56⟩)) [(7, .local), (24, .local)] ⟨[24], [], []⟩ [] ⟨244, 15, 244, 57⟩) ⟨244, 8, 244, 57⟩)
    .nil)
    .nil ⟨243, 4, 244, 57⟩)
    (.cons (.ifS (.cmp .eq (.lv 40 ⟨245, 7, 245, 11⟩) (.str 74 0 ⟨245, 15, 245, 22⟩) ⟨245, 7, 245, 22⟩)
    (.cons (.ret (.call 153 ⟨246, 15, 246, 29⟩ (.cons (.lv 2 ⟨246, 30, 246, 31⟩) .nil) ⟨246, 15, 246, 32⟩) ⟨246, 8, 246, 32⟩)
    .nil)
    .nil ⟨245, 4, 246, 32⟩)
    (.cons (.ifS (.cmp .eq (.lv 40 ⟨247, 7, 247, 11⟩) (.str 45 0 ⟨247, 15, 247, 21⟩) ⟨247, 7, 247, 21⟩)
    (.cons (.ret (.lst (.cons (.idx (.lv 2 ⟨248, 16, 248, 17⟩) (.int 4 0 ⟨248, 18, 248, 19⟩) ⟨248, 16, 248, 20⟩) .nil) ⟨248, 15, 248, 21⟩) ⟨248, 8, 248, 21⟩)
    .nil)
    .nil ⟨247, 4, 248, 21⟩)
    (.cons (.ifS (.cmp .eq (.lv 40 ⟨249, 7, 249, 11⟩) (.str 103 0 ⟨249, 15, 249, 23⟩) ⟨249, 7, 249, 23⟩)
    (.cons (.ret (.ite (.cmp .isnot (.idx (.lv 2 ⟨250, 25, 250, 26⟩) (.int 3 0 ⟨250, 27, 250, 28⟩) ⟨250, 25, 250, 29⟩) (.none 0 ⟨250, 37, 250, 41⟩) ⟨250, 25, 250, 41⟩) (.lst (.cons (.idx (.lv 2 ⟨250, 16, 250, 17⟩) (.int 3 0 ⟨250, 18, 250, 19⟩) ⟨250, 16, 250, 20⟩) .nil) ⟨250, 15, 250, 21⟩) (.lst .nil ⟨250, 47, 250, 49⟩) ⟨250, 15, 250, 49⟩) ⟨250, 8, 250, 49⟩)
    .nil)
    .nil ⟨249, 4, 250, 49⟩)
    (.cons (.ret (.call 152 ⟨251, 11, 251, 25⟩ (.cons (.lv 2 ⟨251, 26, 251, 27⟩) .nil) ⟨251, 11, 251, 28⟩) ⟨251, 4, 251, 28⟩)
    .nil))))))))))))))⟩
noncomputable def f_inner_of_match : Fn := ⟨[2], ⟨[2, 66, 112, 67, 33], [], []⟩,
    (.cons (.asg 66 ⟨253, 4, 253, 9⟩ (.lst (.cons (.idx (.lv 2 ⟨253, 13, 253, 14⟩) (.int 3 0 ⟨253, 15, 253, 16⟩) ⟨253, 13, 253, 17⟩) .nil) ⟨253, 12, 253, 18⟩) ⟨253, 4, 253, 18⟩)
    (.cons (.forS (.many [(112, ⟨254, 8, 254, 15⟩), (67, ⟨254, 17, 254, 22⟩), (33, ⟨254, 24, 254, 28⟩)] 0 ⟨254, 8, 254, 28⟩) (.over (.idx (.lv 2 ⟨254, 32, 254, 33⟩) (.int 4 0 ⟨254, 34, 254, 35⟩) ⟨254, 32, 254, 36⟩))
    (.cons (.ifS (.cmp .isnot (.lv 67 ⟨255, 11, 255, 16⟩) (.none 0 ⟨255, 24, 255, 28⟩) ⟨255, 11, 255, 28⟩)
    (.cons (.expr (.meth (.lv 66 ⟨256, 12, 256, 17⟩) .append ⟨256, 12, 256, 24⟩ (.cons (.lv 67 ⟨256, 25, 256, 30⟩) .nil) ⟨256, 12, 256, 31⟩) ⟨256, 12, 256, 31⟩)
    .nil)
    .nil ⟨255, 8, 256, 31⟩)
    (.cons (.expr (.meth (.lv 66 ⟨257, 8, 257, 13⟩) .append ⟨257, 8, 257, 20⟩ (.cons (.lv 33 ⟨257, 21, 257, 25⟩) .nil) ⟨257, 8, 257, 26⟩) ⟨257, 8, 257, 26⟩)
    .nil)) ⟨254, 4, 257, 26⟩)
    (.cons (.ret (.lv 66 ⟨258, 11, 258, 16⟩) ⟨258, 4, 258, 16⟩)
    .nil)))⟩
noncomputable def f_inner_of_block : Fn := ⟨[2], ⟨[2, 66, 144, 53], [], []⟩,
    (.cons (.asg 66 ⟨260, 4, 260, 9⟩ (.lst .nil ⟨260, 12, 260, 14⟩) ⟨260, 4, 260, 14⟩)
    (.cons (.forS (.one 144 ⟨261, 8, 261, 17⟩) (.over (.idx (.lv 2 ⟨261, 21, 261, 22⟩) (.int 3 0 ⟨261, 23, 261, 24⟩) ⟨261, 21, 261, 25⟩))
    (.cons (.asg 53 ⟨262, 8, 262, 12⟩ (.ite (.cmp .eq (.idx (.lv 144 ⟨262, 31, 262, 40⟩) (.int 0 0 ⟨262, 41, 262, 42⟩) ⟨262, 31, 262, 43⟩) (.str 20 0 ⟨262, 47, 262, 52⟩) ⟨262, 31, 262, 52⟩) (.idx (.lv 144 ⟨262, 15, 262, 24⟩) (.int 3 0 ⟨262, 25, 262, 26⟩) ⟨262, 15, 262, 27⟩) (.idx (.lv 144 ⟨262, 58, 262, 67⟩) (.int 2 0 ⟨262, 68, 262, 69⟩) ⟨262, 58, 262, 70⟩) ⟨262, 15, 262, 70⟩) ⟨262, 8, 262, 70⟩)
    (.cons (.ifS (.cmp .isnot (.lv 53 ⟨263, 11, 263, 15⟩) (.none 0 ⟨263, 23, 263, 27⟩) ⟨263, 11, 263, 27⟩)
    (.cons (.expr (.meth (.lv 66 ⟨264, 12, 264, 17⟩) .append ⟨264, 12, 264, 24⟩ (.cons (.lv 53 ⟨264, 25, 264, 29⟩) .nil) ⟨264, 12, 264, 30⟩) ⟨264, 12, 264, 30⟩)
    .nil)
    .nil ⟨263, 8, 264, 30⟩)
    .nil)) ⟨261, 4, 264, 30⟩)
    (.cons (.ret (.bin .add (.lv 66 ⟨265, 11, 265, 16⟩) (.ite (.cmp .isnot (.idx (.lv 2 ⟨265, 30, 265, 31⟩) (.int 4 0 ⟨265, 32, 265, 33⟩) ⟨265, 30, 265, 34⟩) (.none 0 ⟨265, 42, 265, 46⟩) ⟨265, 30, 265, 46⟩) (.lst (.cons (.idx (.lv 2 ⟨265, 21, 265, 22⟩) (.int 4 0 ⟨265, 23, 265, 24⟩) ⟨265, 21, 265, 25⟩) .nil) ⟨265, 20, 265, 26⟩) (.lst .nil ⟨265, 52, 265, 54⟩) ⟨265, 20, 265, 54⟩) ⟨265, 11, 265, 55⟩) ⟨265, 4, 265, 55⟩)
    .nil)))⟩
noncomputable def f_check_arms : Fn := ⟨[2, 89], ⟨[2, 89, 53, 141], [], [111, 148, 114]⟩,
    (.cons (.asg 53 ⟨267, 4, 267, 8⟩ (.idx (.idx (.lv 2 ⟨267, 11, 267, 12⟩) (.int 3 0 ⟨267, 13, 267, 14⟩) ⟨267, 11, 267, 15⟩) (.int 1 0 ⟨267, 16, 267, 17⟩) ⟨267, 11, 267, 18⟩) ⟨267, 4, 267, 18⟩)
    (.cons (.asg 141 ⟨268, 4, 268, 13⟩ (.comp (.lv 112 ⟨268, 17, 268, 24⟩) (.many [(112, ⟨268, 29, 268, 36⟩), (67, ⟨268, 38, 268, 43⟩), (33, ⟨268, 45, 268, 49⟩)] 0 ⟨268, 29, 268, 49⟩) (.idx (.lv 2 ⟨268, 53, 268, 54⟩) (.int 4 0 ⟨268, 55, 268, 56⟩) ⟨268, 53, 268, 57⟩) (.yes (.cmp .is (.lv 67 ⟨268, 61, 268, 66⟩) (.none 0 ⟨268, 70, 268, 74⟩) ⟨268, 61, 268, 74⟩)) [(7, .local), (112, .local), (67, .local), (33, .local)] ⟨[112, 67, 33], [], []⟩ [] ⟨268, 16, 268, 75⟩) ⟨268, 4, 268, 75⟩)
    (.cons (.ifS (.cmp .isnot (.call 111 ⟨269, 7, 269, 14⟩ (.cons (.lv 141 ⟨269, 15, 269, 24⟩) (.cons (.lv 53 ⟨269, 26, 269, 30⟩) (.cons (.lv 89 ⟨269, 32, 269, 37⟩) .nil))) ⟨269, 7, 269, 38⟩) (.none 0 ⟨269, 46, 269, 50⟩) ⟨269, 7, 269, 50⟩)
    (.cons (.raise 148 ⟨270, 14, 270, 26⟩ (.str 158 0 ⟨270, 27, 270, 55⟩) (.yes (.idx (.lv 2 ⟨270, 57, 270, 58⟩) (.int 2 0 ⟨270, 59, 270, 60⟩) ⟨270, 57, 270, 61⟩)) ⟨270, 14, 270, 62⟩ ⟨270, 8, 270, 62⟩)
    .nil)
    .nil ⟨269, 4, 270, 62⟩)
    (.cons (.ifS (.cmp .ne (.call 114 ⟨271, 7, 271, 14⟩ (.cons (.idx (.lv 2 ⟨271, 15, 271, 16⟩) (.int 4 0 ⟨271, 17, 271, 18⟩) ⟨271, 15, 271, 19⟩) (.cons (.lv 53 ⟨271, 21, 271, 25⟩) (.cons (.lv 89 ⟨271, 27, 271, 32⟩) .nil))) ⟨271, 7, 271, 33⟩) (.lst .nil ⟨271, 37, 271, 39⟩) ⟨271, 7, 271, 39⟩)
    (.cons (.raise 148 ⟨272, 14, 272, 26⟩ (.str 157 0 ⟨272, 27, 272, 53⟩) (.yes (.idx (.lv 2 ⟨272, 55, 272, 56⟩) (.int 2 0 ⟨272, 57, 272, 58⟩) ⟨272, 55, 272, 59⟩)) ⟨272, 14, 272, 60⟩ ⟨272, 8, 272, 60⟩)
    .nil)
    .nil ⟨271, 4, 272, 60⟩)
    .nil))))⟩
noncomputable def f_check_lets : Fn := ⟨[2, 89], ⟨[2, 89, 144], [], [111, 148]⟩,
    (.cons (.forS (.one 144 ⟨274, 8, 274, 17⟩) (.over (.idx (.lv 2 ⟨274, 21, 274, 22⟩) (.int 3 0 ⟨274, 23, 274, 24⟩) ⟨274, 21, 274, 25⟩))
    (.cons (.ifS (.and (.cons (.cmp .eq (.idx (.lv 144 ⟨275, 11, 275, 20⟩) (.int 0 0 ⟨275, 21, 275, 22⟩) ⟨275, 11, 275, 23⟩) (.str 20 0 ⟨275, 27, 275, 32⟩) ⟨275, 11, 275, 32⟩) (.cons (.cmp .isnot (.call 111 ⟨275, 37, 275, 44⟩ (.cons (.lst (.cons (.idx (.lv 144 ⟨275, 46, 275, 55⟩) (.int 2 0 ⟨275, 56, 275, 57⟩) ⟨275, 46, 275, 58⟩) .nil) ⟨275, 45, 275, 59⟩) (.cons (.idx (.idx (.lv 144 ⟨275, 61, 275, 70⟩) (.int 2 0 ⟨275, 71, 275, 72⟩) ⟨275, 61, 275, 73⟩) (.int 1 0 ⟨275, 74, 275, 75⟩) ⟨275, 61, 275, 76⟩) (.cons (.lv 89 ⟨275, 78, 275, 83⟩) .nil))) ⟨275, 37, 275, 84⟩) (.none 0 ⟨275, 92, 275, 96⟩) ⟨275, 37, 275, 96⟩) .nil)) ⟨275, 11, 275, 96⟩)
    (.cons (.raise 148 ⟨276, 18, 276, 30⟩ (.str 159 0 ⟨276, 31, 276, 77⟩) (.yes (.idx (.lv 144 ⟨276, 79, 276, 88⟩) (.int 1 0 ⟨276, 89, 276, 90⟩) ⟨276, 79, 276, 91⟩)) ⟨276, 18, 276, 92⟩ ⟨276, 12, 276, 92⟩)
    .nil)
    .nil ⟨275, 8, 276, 92⟩)
    .nil) ⟨274, 4, 276, 92⟩)
    .nil)⟩
noncomputable def f_check_matches : Fn := ⟨[126, 89], ⟨[126, 89, 112, 43, 2], [], [111, 148, 145, 146, 121]⟩,
    (.cons (.forS (.one 112 ⟨278, 8, 278, 15⟩) (.over (.hook 0 126 100 ⟨278, 19, 278, 27⟩ ⟨278, 19, 278, 34⟩))
    (.cons (.ifS (.cmp .isnot (.call 111 ⟨279, 11, 279, 18⟩ (.cons (.lst (.cons (.lv 112 ⟨279, 20, 279, 27⟩) .nil) ⟨279, 19, 279, 28⟩) (.cons (.idx (.lv 112 ⟨279, 30, 279, 37⟩) (.int 1 0 ⟨279, 38, 279, 39⟩) ⟨279, 30, 279, 40⟩) (.cons (.lv 89 ⟨279, 42, 279, 47⟩) .nil))) ⟨279, 11, 279, 48⟩) (.none 0 ⟨279, 56, 279, 60⟩) ⟨279, 11, 279, 60⟩)
    (.cons (.raise 148 ⟨280, 18, 280, 30⟩ (.str 160 0 ⟨280, 31, 280, 83⟩) .no ⟨280, 18, 280, 84⟩ ⟨280, 12, 280, 84⟩)
    .nil)
    .nil ⟨279, 8, 280, 84⟩)
    .nil) ⟨278, 4, 280, 84⟩)
    (.cons (.asg 43 ⟨281, 4, 281, 8⟩ (.lst (.cons (.hook 1 126 33 ⟨281, 12, 281, 20⟩ ⟨281, 12, 281, 25⟩) .nil) ⟨281, 11, 281, 26⟩) ⟨281, 4, 281, 26⟩)
    (.cons (.whileS (.cmp .ne (.lv 43 ⟨282, 10, 282, 14⟩) (.lst .nil ⟨282, 18, 282, 20⟩) ⟨282, 10, 282, 20⟩)
    (.cons (.asg 2 ⟨283, 8, 283, 9⟩ (.meth (.lv 43 ⟨283, 12, 283, 16⟩) .pop ⟨283, 12, 283, 20⟩ .nil ⟨283, 12, 283, 22⟩) ⟨283, 8, 283, 22⟩)
    (.cons (.ifS (.cmp .eq (.idx (.lv 2 ⟨284, 11, 284, 12⟩) (.int 0 0 ⟨284, 13, 284, 14⟩) ⟨284, 11, 284, 15⟩) (.str 74 0 ⟨284, 19, 284, 26⟩) ⟨284, 11, 284, 26⟩)
    (.cons (.exprC 145 ⟨285, 12, 285, 22⟩ (.cons (.lv 2 ⟨285, 23, 285, 24⟩) (.cons (.lv 89 ⟨285, 26, 285, 31⟩) .nil)) ⟨285, 12, 285, 32⟩ ⟨285, 12, 285, 32⟩)
    .nil)
    (.cons (.ifS (.cmp .eq (.idx (.lv 2 ⟨286, 13, 286, 14⟩) (.int 0 0 ⟨286, 15, 286, 16⟩) ⟨286, 13, 286, 17⟩) (.str 58 0 ⟨286, 21, 286, 28⟩) ⟨286, 13, 286, 28⟩)
    (.cons (.exprC 146 ⟨287, 12, 287, 22⟩ (.cons (.lv 2 ⟨287, 23, 287, 24⟩) (.cons (.lv 89 ⟨287, 26, 287, 31⟩) .nil)) ⟨287, 12, 287, 32⟩ ⟨287, 12, 287, 32⟩)
    .nil)
    .nil ⟨286, 8, 287, 32⟩)
    .nil) ⟨284, 8, 287, 32⟩)
    (.cons (.expr (.meth (.lv 43 ⟨288, 8, 288, 12⟩) .extend ⟨288, 8, 288, 19⟩ (.cons (.rev (.call 121 ⟨288, 20, 288, 28⟩ (.cons (.lv 2 ⟨288, 29, 288, 30⟩) .nil) ⟨288, 20, 288, 31⟩) (.neg (.int 1 0 ⟨288, 35, 288, 36⟩) ⟨288, 34, 288, 36⟩) ⟨288, 32, 288, 36⟩ ⟨288, 20, 288, 37⟩) .nil) ⟨288, 8, 288, 38⟩) ⟨288, 8, 288, 38⟩)
    .nil))) ⟨282, 4, 288, 38⟩)
    .nil)))⟩
noncomputable def f_law_pool : Fn := ⟨[104, 4], ⟨[104, 4, 37, 15, 75], [], [19, 21, 17]⟩,
    (.cons (.asg 37 ⟨300, 4, 300, 8⟩ (.int 0 0 ⟨300, 11, 300, 12⟩) ⟨300, 4, 300, 12⟩)
    (.cons (.ifS (.cmp .lt (.lv 4 ⟨301, 7, 301, 8⟩) (.bcall .len 19 ⟨301, 11, 301, 14⟩ (.cons (.lv 104 ⟨301, 15, 301, 21⟩) .nil) ⟨301, 11, 301, 22⟩) ⟨301, 7, 301, 22⟩)
    (.cons (.asg 37 ⟨302, 8, 302, 12⟩ (.idx (.lv 104 ⟨302, 15, 302, 21⟩) (.lv 4 ⟨302, 22, 302, 23⟩) ⟨302, 15, 302, 24⟩) ⟨302, 8, 302, 24⟩)
    .nil)
    .nil ⟨301, 4, 302, 24⟩)
    (.cons (.asg 15 ⟨303, 4, 303, 7⟩ (.bcall .max 21 ⟨303, 10, 303, 13⟩ (.cons (.bcall .int 17 ⟨303, 14, 303, 17⟩ (.cons (.lv 37 ⟨303, 18, 303, 22⟩) .nil) ⟨303, 14, 303, 23⟩) (.cons (.bcall .int 17 ⟨303, 25, 303, 28⟩ (.cons (.bin .sub (.neg (.int 1 0 ⟨303, 30, 303, 31⟩) ⟨303, 29, 303, 31⟩) (.lv 37 ⟨303, 34, 303, 38⟩) ⟨303, 29, 303, 38⟩) .nil) ⟨303, 25, 303, 39⟩) .nil)) ⟨303, 10, 303, 40⟩) ⟨303, 4, 303, 40⟩)
    (.cons (.asg 75 ⟨304, 4, 304, 9⟩ (.bin .mod (.bcall .int 17 ⟨304, 12, 304, 15⟩ (.cons (.bin .mul (.bin .add (.bin .add (.bin .add (.bin .mod (.bcall .int 17 ⟨304, 17, 304, 20⟩ (.cons (.lv 15 ⟨304, 21, 304, 24⟩) .nil) ⟨304, 17, 304, 25⟩) (.int 2147483629 0 ⟨304, 28, 304, 38⟩) ⟨304, 17, 304, 38⟩) (.bin .mul (.bin .mul (.int 7919 0 ⟨304, 41, 304, 45⟩) (.lv 4 ⟨304, 48, 304, 49⟩) ⟨304, 41, 304, 49⟩) (.lv 4 ⟨304, 52, 304, 53⟩) ⟨304, 41, 304, 53⟩) ⟨304, 17, 304, 53⟩) (.bin .mul (.int 31 0 ⟨304, 56, 304, 58⟩) (.lv 4 ⟨304, 61, 304, 62⟩) ⟨304, 56, 304, 62⟩) ⟨304, 17, 304, 62⟩) (.int 17 0 ⟨304, 65, 304, 67⟩) ⟨304, 17, 304, 67⟩) (.int 48271 0 ⟨304, 71, 304, 76⟩) ⟨304, 16, 304, 76⟩) .nil) ⟨304, 12, 304, 77⟩) (.int 2147483647 0 ⟨304, 80, 304, 90⟩) ⟨304, 12, 304, 90⟩) ⟨304, 4, 304, 90⟩)
    (.cons (.ret (.lst (.cons (.bin .mul (.lv 15 ⟨305, 12, 305, 15⟩) (.bcall .int 17 ⟨305, 18, 305, 21⟩ (.cons (.cmp .ge (.lv 15 ⟨305, 22, 305, 25⟩) (.bin .pow (.int 10 0 ⟨305, 29, 305, 31⟩) (.int 18 0 ⟨305, 35, 305, 37⟩) ⟨305, 29, 305, 37⟩) ⟨305, 22, 305, 37⟩) .nil) ⟨305, 18, 305, 38⟩) ⟨305, 12, 305, 38⟩) (.cons (.lv 75 ⟨305, 40, 305, 45⟩) .nil)) ⟨305, 11, 305, 46⟩) ⟨305, 4, 305, 46⟩)
    .nil)))))⟩
noncomputable def f_law_take : Fn := ⟨[105, 27], ⟨[105, 27, 62], [], [17]⟩,
    (.cons (.ifS (.cmp .gt (.idx (.lv 105 ⟨307, 7, 307, 13⟩) (.int 0 0 ⟨307, 14, 307, 15⟩) ⟨307, 7, 307, 16⟩) (.int 0 0 ⟨307, 19, 307, 20⟩) ⟨307, 7, 307, 20⟩)
    (.cons (.asg 62 ⟨308, 8, 308, 13⟩ (.bin .mod (.bcall .int 17 ⟨308, 16, 308, 19⟩ (.cons (.idx (.lv 105 ⟨308, 20, 308, 26⟩) (.int 0 0 ⟨308, 27, 308, 28⟩) ⟨308, 20, 308, 29⟩) .nil) ⟨308, 16, 308, 30⟩) (.lv 27 ⟨308, 33, 308, 36⟩) ⟨308, 16, 308, 36⟩) ⟨308, 8, 308, 36⟩)
    (.cons (.asgI (.lv 105 ⟨309, 8, 309, 14⟩) (.int 0 0 ⟨309, 15, 309, 16⟩) ⟨309, 8, 309, 17⟩ (.bin .fdiv (.idx (.lv 105 ⟨309, 20, 309, 26⟩) (.int 0 0 ⟨309, 27, 309, 28⟩) ⟨309, 20, 309, 29⟩) (.lv 27 ⟨309, 33, 309, 36⟩) ⟨309, 20, 309, 36⟩) ⟨309, 8, 309, 36⟩)
    (.cons (.ret (.lv 62 ⟨310, 15, 310, 20⟩) ⟨310, 8, 310, 20⟩)
    .nil)))
    .nil ⟨307, 4, 310, 20⟩)
    (.cons (.asgI (.lv 105 ⟨311, 4, 311, 10⟩) (.int 1 0 ⟨311, 11, 311, 12⟩) ⟨311, 4, 311, 13⟩ (.bin .mod (.bcall .int 17 ⟨311, 16, 311, 19⟩ (.cons (.bin .add (.bin .mul (.idx (.lv 105 ⟨311, 20, 311, 26⟩) (.int 1 0 ⟨311, 27, 311, 28⟩) ⟨311, 20, 311, 29⟩) (.int 39373 0 ⟨311, 32, 311, 37⟩) ⟨311, 20, 311, 37⟩) (.int 7 0 ⟨311, 40, 311, 41⟩) ⟨311, 20, 311, 41⟩) .nil) ⟨311, 16, 311, 42⟩) (.int 2147483647 0 ⟨311, 45, 311, 55⟩) ⟨311, 16, 311, 55⟩) ⟨311, 4, 311, 55⟩)
    (.cons (.ret (.bin .mod (.bcall .int 17 ⟨312, 11, 312, 14⟩ (.cons (.bin .fdiv (.bin .mod (.bcall .int 17 ⟨312, 15, 312, 18⟩ (.cons (.bin .mul (.idx (.lv 105 ⟨312, 19, 312, 25⟩) (.int 1 0 ⟨312, 26, 312, 27⟩) ⟨312, 19, 312, 28⟩) (.idx (.lv 105 ⟨312, 31, 312, 37⟩) (.int 1 0 ⟨312, 38, 312, 39⟩) ⟨312, 31, 312, 40⟩) ⟨312, 19, 312, 40⟩) .nil) ⟨312, 15, 312, 41⟩) (.int 2147483629 0 ⟨312, 44, 312, 54⟩) ⟨312, 15, 312, 54⟩) (.int 32 0 ⟨312, 58, 312, 60⟩) ⟨312, 15, 312, 60⟩) .nil) ⟨312, 11, 312, 61⟩) (.lv 27 ⟨312, 64, 312, 67⟩) ⟨312, 11, 312, 67⟩) ⟨312, 4, 312, 67⟩)
    .nil)))⟩
noncomputable def f_law_one : Fn := ⟨[105, 106], ⟨[105, 106], [], [134, 19]⟩,
    (.cons (.ret (.idx (.lv 106 ⟨314, 11, 314, 17⟩) (.call 134 ⟨314, 18, 314, 27⟩ (.cons (.lv 105 ⟨314, 28, 314, 34⟩) (.cons (.bcall .len 19 ⟨314, 36, 314, 39⟩ (.cons (.lv 106 ⟨314, 40, 314, 46⟩) .nil) ⟨314, 36, 314, 47⟩) .nil)) ⟨314, 18, 314, 48⟩) ⟨314, 11, 314, 49⟩) ⟨314, 4, 314, 49⟩)
    .nil)⟩
noncomputable def f_law_bool : Fn := ⟨[], ⟨[], [], []⟩,
    (.cons (.ret (.tup (.cons (.str 34 0 ⟨316, 12, 316, 18⟩) .nil) 0 ⟨316, 11, 316, 20⟩) ⟨316, 4, 316, 20⟩)
    .nil)⟩
noncomputable def f_law_arms : Fn := ⟨[], ⟨[29, 11, 39, 49], [], [131]⟩,
    (.cons (.asgT [(29, ⟨318, 4, 318, 7⟩), (11, ⟨318, 9, 318, 11⟩), (39, ⟨318, 13, 318, 17⟩)] 0 ⟨318, 4, 318, 17⟩ (.tup (.cons (.tup (.cons (.str 60 0 ⟨318, 22, 318, 29⟩) (.cons (.call 131 ⟨318, 31, 318, 40⟩ .nil ⟨318, 31, 318, 42⟩) (.cons (.bool true 0 ⟨318, 44, 318, 48⟩) .nil))) 0 ⟨318, 21, 318, 49⟩) (.cons (.tup (.cons (.str 60 0 ⟨318, 52, 318, 59⟩) (.cons (.call 131 ⟨318, 61, 318, 70⟩ .nil ⟨318, 61, 318, 72⟩) (.cons (.bool false 0 ⟨318, 74, 318, 79⟩) .nil))) 0 ⟨318, 51, 318, 80⟩) (.cons (.tup (.cons (.str 55 0 ⟨318, 83, 318, 89⟩) (.cons (.call 131 ⟨318, 91, 318, 100⟩ .nil ⟨318, 91, 318, 102⟩) .nil)) 0 ⟨318, 82, 318, 103⟩) .nil))) 0 ⟨318, 20, 318, 104⟩) ⟨318, 4, 318, 104⟩)
    (.cons (.asg 49 ⟨319, 4, 319, 8⟩ (.lst (.cons (.tup (.cons (.lst (.cons (.tup (.cons (.lv 29 ⟨319, 15, 319, 18⟩) (.cons (.int 0 0 ⟨319, 20, 319, 21⟩) .nil)) 0 ⟨319, 14, 319, 22⟩) (.cons (.tup (.cons (.lv 11 ⟨319, 25, 319, 27⟩) (.cons (.int 0 0 ⟨319, 29, 319, 30⟩) .nil)) 0 ⟨319, 24, 319, 31⟩) .nil)) ⟨319, 13, 319, 32⟩) (.cons (.str 0 0 ⟨319, 34, 319, 36⟩) .nil)) 0 ⟨319, 12, 319, 37⟩) (.cons (.tup (.cons (.lst (.cons (.tup (.cons (.lv 39 ⟨319, 42, 319, 46⟩) (.cons (.int 0 0 ⟨319, 48, 319, 49⟩) .nil)) 0 ⟨319, 41, 319, 50⟩) .nil) ⟨319, 40, 319, 51⟩) (.cons (.str 0 0 ⟨319, 53, 319, 55⟩) .nil)) 0 ⟨319, 39, 319, 56⟩) (.cons (.tup (.cons (.lst (.cons (.tup (.cons (.lv 11 ⟨319, 61, 319, 63⟩) (.cons (.int 0 0 ⟨319, 65, 319, 66⟩) .nil)) 0 ⟨319, 60, 319, 67⟩) (.cons (.tup (.cons (.lv 39 ⟨319, 70, 319, 74⟩) (.cons (.int 0 0 ⟨319, 76, 319, 77⟩) .nil)) 0 ⟨319, 69, 319, 78⟩) .nil)) ⟨319, 59, 319, 79⟩) (.cons (.str 0 0 ⟨319, 81, 319, 83⟩) .nil)) 0 ⟨319, 58, 319, 84⟩) (.cons (.tup (.cons (.lst (.cons (.tup (.cons (.lv 39 ⟨319, 89, 319, 93⟩) (.cons (.int 1 0 ⟨319, 95, 319, 96⟩) .nil)) 0 ⟨319, 88, 319, 97⟩) (.cons (.tup (.cons (.lv 39 ⟨319, 100, 319, 104⟩) (.cons (.int 0 0 ⟨319, 106, 319, 107⟩) .nil)) 0 ⟨319, 99, 319, 108⟩) .nil)) ⟨319, 87, 319, 109⟩) (.cons (.str 0 0 ⟨319, 111, 319, 113⟩) .nil)) 0 ⟨319, 86, 319, 114⟩) .nil)))) ⟨319, 11, 319, 115⟩) ⟨319, 4, 319, 115⟩)
    (.cons (.asg 49 ⟨320, 4, 320, 8⟩ (.bin .add (.lv 49 ⟨320, 11, 320, 15⟩) (.lst (.cons (.tup (.cons (.lst (.cons (.tup (.cons (.lv 29 ⟨320, 22, 320, 25⟩) (.cons (.int 1 0 ⟨320, 27, 320, 28⟩) .nil)) 0 ⟨320, 21, 320, 29⟩) (.cons (.tup (.cons (.lv 29 ⟨320, 32, 320, 35⟩) (.cons (.int 0 0 ⟨320, 37, 320, 38⟩) .nil)) 0 ⟨320, 31, 320, 39⟩) (.cons (.tup (.cons (.lv 11 ⟨320, 42, 320, 44⟩) (.cons (.int 0 0 ⟨320, 46, 320, 47⟩) .nil)) 0 ⟨320, 41, 320, 48⟩) .nil))) ⟨320, 20, 320, 49⟩) (.cons (.str 0 0 ⟨320, 51, 320, 53⟩) .nil)) 0 ⟨320, 19, 320, 54⟩) (.cons (.tup (.cons (.lst (.cons (.tup (.cons (.lv 29 ⟨320, 59, 320, 62⟩) (.cons (.int 0 0 ⟨320, 64, 320, 65⟩) .nil)) 0 ⟨320, 58, 320, 66⟩) .nil) ⟨320, 57, 320, 67⟩) (.cons (.str 97 0 ⟨320, 69, 320, 77⟩) .nil)) 0 ⟨320, 56, 320, 78⟩) (.cons (.tup (.cons (.lst (.cons (.tup (.cons (.lv 29 ⟨320, 83, 320, 86⟩) (.cons (.int 1 0 ⟨320, 88, 320, 89⟩) .nil)) 0 ⟨320, 82, 320, 90⟩) (.cons (.tup (.cons (.lv 11 ⟨320, 93, 320, 95⟩) (.cons (.int 0 0 ⟨320, 97, 320, 98⟩) .nil)) 0 ⟨320, 92, 320, 99⟩) .nil)) ⟨320, 81, 320, 100⟩) (.cons (.str 97 0 ⟨320, 102, 320, 110⟩) .nil)) 0 ⟨320, 80, 320, 111⟩) .nil))) ⟨320, 18, 320, 112⟩) ⟨320, 11, 320, 112⟩) ⟨320, 4, 320, 112⟩)
    (.cons (.asg 49 ⟨321, 4, 321, 8⟩ (.bin .add (.lv 49 ⟨321, 11, 321, 15⟩) (.lst (.cons (.tup (.cons (.lst (.cons (.tup (.cons (.lv 39 ⟨321, 22, 321, 26⟩) (.cons (.int 1 0 ⟨321, 28, 321, 29⟩) .nil)) 0 ⟨321, 21, 321, 30⟩) .nil) ⟨321, 20, 321, 31⟩) (.cons (.str 97 0 ⟨321, 33, 321, 41⟩) .nil)) 0 ⟨321, 19, 321, 42⟩) (.cons (.tup (.cons (.lst (.cons (.tup (.cons (.lv 39 ⟨321, 47, 321, 51⟩) (.cons (.int 0 0 ⟨321, 53, 321, 54⟩) .nil)) 0 ⟨321, 46, 321, 55⟩) (.cons (.tup (.cons (.lv 11 ⟨321, 58, 321, 60⟩) (.cons (.int 0 0 ⟨321, 62, 321, 63⟩) .nil)) 0 ⟨321, 57, 321, 64⟩) .nil)) ⟨321, 45, 321, 65⟩) (.cons (.str 124 0 ⟨321, 67, 321, 77⟩) .nil)) 0 ⟨321, 44, 321, 78⟩) .nil)) ⟨321, 18, 321, 79⟩) ⟨321, 11, 321, 79⟩) ⟨321, 4, 321, 79⟩)
    (.cons (.asg 49 ⟨322, 4, 322, 8⟩ (.bin .add (.lv 49 ⟨322, 11, 322, 15⟩) (.lst (.cons (.tup (.cons (.lst (.cons (.tup (.cons (.lv 29 ⟨322, 22, 322, 25⟩) (.cons (.int 0 0 ⟨322, 27, 322, 28⟩) .nil)) 0 ⟨322, 21, 322, 29⟩) (.cons (.tup (.cons (.lv 11 ⟨322, 32, 322, 34⟩) (.cons (.int 0 0 ⟨322, 36, 322, 37⟩) .nil)) 0 ⟨322, 31, 322, 38⟩) (.cons (.tup (.cons (.lv 39 ⟨322, 41, 322, 45⟩) (.cons (.int 1 0 ⟨322, 47, 322, 48⟩) .nil)) 0 ⟨322, 40, 322, 49⟩) .nil))) ⟨322, 20, 322, 50⟩) (.cons (.str 124 0 ⟨322, 52, 322, 62⟩) .nil)) 0 ⟨322, 19, 322, 63⟩) .nil) ⟨322, 18, 322, 64⟩) ⟨322, 11, 322, 64⟩) ⟨322, 4, 322, 64⟩)
    (.cons (.ret (.bin .add (.lv 49 ⟨323, 11, 323, 15⟩) (.lst (.cons (.tup (.cons (.lst (.cons (.tup (.cons (.lv 29 ⟨323, 22, 323, 25⟩) (.cons (.int 0 0 ⟨323, 27, 323, 28⟩) .nil)) 0 ⟨323, 21, 323, 29⟩) (.cons (.tup (.cons (.lv 29 ⟨323, 32, 323, 35⟩) (.cons (.int 1 0 ⟨323, 37, 323, 38⟩) .nil)) 0 ⟨323, 31, 323, 39⟩) .nil)) ⟨323, 20, 323, 40⟩) (.cons (.str 97 0 ⟨323, 42, 323, 50⟩) .nil)) 0 ⟨323, 19, 323, 51⟩) .nil) ⟨323, 18, 323, 52⟩) ⟨323, 11, 323, 52⟩) ⟨323, 4, 323, 52⟩)
    .nil))))))⟩
noncomputable def f_law_node : Fn := ⟨[105, 38, 66], ⟨[105, 38, 66, 51, 52, 28, 30, 90, 87, 49, 112, 138, 67, 53, 72, 24, 77, 56], [], [131, 19, 134, 117, 130, 132, 84]⟩,
    (.cons (.asgT [(51, ⟨325, 4, 325, 8⟩), (52, ⟨325, 10, 325, 14⟩)] 0 ⟨325, 4, 325, 14⟩ (.tup (.cons (.call 131 ⟨325, 18, 325, 27⟩ .nil ⟨325, 18, 325, 29⟩) (.cons (.bin .add (.bin .mul (.int 10 0 ⟨325, 31, 325, 33⟩) (.bcall .len 19 ⟨325, 36, 325, 39⟩ (.cons (.lv 66 ⟨325, 40, 325, 45⟩) .nil) ⟨325, 36, 325, 46⟩) ⟨325, 31, 325, 46⟩) (.int 1 0 ⟨325, 49, 325, 50⟩) ⟨325, 31, 325, 50⟩) .nil)) 0 ⟨325, 17, 325, 51⟩) ⟨325, 4, 325, 51⟩)
    (.cons (.asg 28 ⟨326, 4, 326, 7⟩ (.ite (.cmp .gt (.lv 38 ⟨326, 35, 326, 39⟩) (.int 0 0 ⟨326, 42, 326, 43⟩) ⟨326, 35, 326, 43⟩) (.call 134 ⟨326, 10, 326, 19⟩ (.cons (.lv 105 ⟨326, 20, 326, 26⟩) (.cons (.int 14 0 ⟨326, 28, 326, 30⟩) .nil)) ⟨326, 10, 326, 31⟩) (.int 14 0 ⟨326, 49, 326, 51⟩) ⟨326, 10, 326, 51⟩) ⟨326, 4, 326, 51⟩)
    (.cons (.ifS (.cmp .lt (.lv 28 ⟨327, 7, 327, 10⟩) (.int 4 0 ⟨327, 13, 327, 14⟩) ⟨327, 7, 327, 14⟩)
    (.cons (.asgT [(30, ⟨328, 8, 328, 12⟩), (90, ⟨328, 14, 328, 19⟩)] 0 ⟨328, 8, 328, 19⟩ (.call 117 ⟨328, 22, 328, 30⟩ (.cons (.lv 105 ⟨328, 31, 328, 37⟩) (.cons (.bin .add (.call 130 ⟨328, 39, 328, 48⟩ .nil ⟨328, 39, 328, 50⟩) (.bin .mul (.comp (.lv 26 ⟨328, 54, 328, 57⟩) (.one 26 ⟨328, 62, 328, 65⟩) (.call 130 ⟨328, 69, 328, 78⟩ .nil ⟨328, 69, 328, 80⟩) (.yes (.cmp .eq (.idx (.lv 26 ⟨328, 84, 328, 87⟩) (.int 1 0 ⟨328, 88, 328, 89⟩) ⟨328, 84, 328, 90⟩) (.str 0 0 ⟨328, 94, 328, 96⟩) ⟨328, 84, 328, 96⟩)) [(7, .local), (26, .local)] ⟨[26], [], []⟩ [] ⟨328, 53, 328, 97⟩) (.int 3 0 ⟨328, 100, 328, 101⟩) ⟨328, 53, 328, 101⟩) ⟨328, 39, 328, 101⟩) .nil)) ⟨328, 22, 328, 102⟩) ⟨328, 8, 328, 102⟩)
    (.cons (.expr (.meth (.lv 66 ⟨329, 8, 329, 13⟩) .append ⟨329, 8, 329, 20⟩ (.cons (.tup (.cons (.lv 52 ⟨329, 22, 329, 26⟩) (.cons (.lv 90 ⟨329, 28, 329, 33⟩) .nil)) 0 ⟨329, 21, 329, 34⟩) .nil) ⟨329, 8, 329, 35⟩) ⟨329, 8, 329, 35⟩)
    (.cons (.asgT [(87, ⟨330, 8, 330, 13⟩), (49, ⟨330, 15, 330, 19⟩)] 0 ⟨330, 8, 330, 19⟩ (.tup (.cons (.call 132 ⟨330, 23, 330, 32⟩ (.cons (.lv 105 ⟨330, 33, 330, 39⟩) (.cons (.bin .sub (.lv 38 ⟨330, 41, 330, 45⟩) (.int 1 0 ⟨330, 48, 330, 49⟩) ⟨330, 41, 330, 49⟩) (.cons (.lv 66 ⟨330, 51, 330, 56⟩) .nil))) ⟨330, 23, 330, 57⟩) (.cons (.lst .nil ⟨330, 59, 330, 61⟩) .nil)) 0 ⟨330, 22, 330, 62⟩) ⟨330, 8, 330, 62⟩)
    (.cons (.forS (.many [(112, ⟨331, 12, 331, 19⟩), (138, ⟨331, 21, 331, 30⟩)] 0 ⟨331, 12, 331, 30⟩) (.over (.lv 30 ⟨331, 34, 331, 38⟩))
    (.cons (.asg 67 ⟨332, 12, 332, 17⟩ (.ite (.lv 138 ⟨332, 58, 332, 67⟩) (.call 132 ⟨332, 20, 332, 29⟩ (.cons (.lv 105 ⟨332, 30, 332, 36⟩) (.cons (.bin .sub (.lv 38 ⟨332, 38, 332, 42⟩) (.int 1 0 ⟨332, 45, 332, 46⟩) ⟨332, 38, 332, 46⟩) (.cons (.lv 66 ⟨332, 48, 332, 53⟩) .nil))) ⟨332, 20, 332, 54⟩) (.none 0 ⟨332, 73, 332, 77⟩) ⟨332, 20, 332, 77⟩) ⟨332, 12, 332, 77⟩)
    (.cons (.expr (.meth (.lv 49 ⟨333, 12, 333, 16⟩) .append ⟨333, 12, 333, 23⟩ (.cons (.tup (.cons (.lv 112 ⟨333, 25, 333, 32⟩) (.cons (.lv 67 ⟨333, 34, 333, 39⟩) (.cons (.call 132 ⟨333, 41, 333, 50⟩ (.cons (.lv 105 ⟨333, 51, 333, 57⟩) (.cons (.bin .sub (.lv 38 ⟨333, 59, 333, 63⟩) (.int 2 0 ⟨333, 66, 333, 67⟩) ⟨333, 59, 333, 67⟩) (.cons (.lv 66 ⟨333, 69, 333, 74⟩) .nil))) ⟨333, 41, 333, 75⟩) .nil))) 0 ⟨333, 24, 333, 76⟩) .nil) ⟨333, 12, 333, 77⟩) ⟨333, 12, 333, 77⟩)
    .nil)) ⟨331, 8, 333, 77⟩)
    (.cons (.ret (.tup (.cons (.str 74 0 ⟨334, 16, 334, 23⟩) (.cons (.lv 51 ⟨334, 25, 334, 29⟩) (.cons (.lv 52 ⟨334, 31, 334, 35⟩) (.cons (.lv 87 ⟨334, 37, 334, 42⟩) (.cons (.bcall .tuple 84 ⟨334, 44, 334, 49⟩ (.cons (.lv 49 ⟨334, 50, 334, 54⟩) .nil) ⟨334, 44, 334, 55⟩) .nil))))) 0 ⟨334, 15, 334, 56⟩) ⟨334, 8, 334, 56⟩)
    .nil)))))
    .nil ⟨327, 4, 334, 56⟩)
    (.cons (.ifS (.cmp .lt (.lv 28 ⟨335, 7, 335, 10⟩) (.int 6 0 ⟨335, 13, 335, 14⟩) ⟨335, 7, 335, 14⟩)
    (.cons (.asg 112 ⟨336, 8, 336, 15⟩ (.call 117 ⟨336, 18, 336, 26⟩ (.cons (.lv 105 ⟨336, 27, 336, 33⟩) (.cons (.lst (.cons (.tup (.cons (.str 55 0 ⟨336, 37, 336, 43⟩) (.cons (.lv 51 ⟨336, 45, 336, 49⟩) .nil)) 0 ⟨336, 36, 336, 50⟩) (.cons (.tup (.cons (.str 55 0 ⟨336, 53, 336, 59⟩) (.cons (.lv 51 ⟨336, 61, 336, 65⟩) .nil)) 0 ⟨336, 52, 336, 66⟩) (.cons (.tup (.cons (.str 60 0 ⟨336, 69, 336, 76⟩) (.cons (.lv 51 ⟨336, 78, 336, 82⟩) (.cons (.bool true 0 ⟨336, 84, 336, 88⟩) .nil))) 0 ⟨336, 68, 336, 89⟩) .nil))) ⟨336, 35, 336, 90⟩) .nil)) ⟨336, 18, 336, 91⟩) ⟨336, 8, 336, 91⟩)
    (.cons (.expr (.meth (.lv 66 ⟨337, 8, 337, 13⟩) .append ⟨337, 8, 337, 20⟩ (.cons (.tup (.cons (.lv 52 ⟨337, 22, 337, 26⟩) (.cons (.ite (.cmp .eq (.idx (.lv 112 ⟨337, 34, 337, 41⟩) (.int 0 0 ⟨337, 42, 337, 43⟩) ⟨337, 34, 337, 44⟩) (.str 55 0 ⟨337, 48, 337, 54⟩) ⟨337, 34, 337, 54⟩) (.str 0 0 ⟨337, 28, 337, 30⟩) (.str 20 0 ⟨337, 60, 337, 65⟩) ⟨337, 28, 337, 65⟩) .nil)) 0 ⟨337, 21, 337, 66⟩) .nil) ⟨337, 8, 337, 67⟩) ⟨337, 8, 337, 67⟩)
    (.cons (.asg 53 ⟨338, 8, 338, 12⟩ (.tup (.cons (.str 20 0 ⟨338, 16, 338, 21⟩) (.cons (.lv 52 ⟨338, 23, 338, 27⟩) (.cons (.lv 112 ⟨338, 29, 338, 36⟩) (.cons (.call 132 ⟨338, 38, 338, 47⟩ (.cons (.lv 105 ⟨338, 48, 338, 54⟩) (.cons (.bin .sub (.lv 38 ⟨338, 56, 338, 60⟩) (.int 1 0 ⟨338, 63, 338, 64⟩) ⟨338, 56, 338, 64⟩) (.cons (.lv 66 ⟨338, 66, 338, 71⟩) .nil))) ⟨338, 38, 338, 72⟩) .nil)))) 0 ⟨338, 15, 338, 73⟩) ⟨338, 8, 338, 73⟩)
    (.cons (.asg 72 ⟨339, 8, 339, 13⟩ (.tup (.cons (.lv 53 ⟨339, 17, 339, 21⟩) (.cons (.tup (.cons (.str 9 0 ⟨339, 24, 339, 28⟩) (.cons (.lv 52 ⟨339, 30, 339, 34⟩) (.cons (.call 132 ⟨339, 36, 339, 45⟩ (.cons (.lv 105 ⟨339, 46, 339, 52⟩) (.cons (.bin .sub (.lv 38 ⟨339, 54, 339, 58⟩) (.int 1 0 ⟨339, 61, 339, 62⟩) ⟨339, 54, 339, 62⟩) (.cons (.lv 66 ⟨339, 64, 339, 69⟩) .nil))) ⟨339, 36, 339, 70⟩) .nil))) 0 ⟨339, 23, 339, 71⟩) .nil)) 0 ⟨339, 16, 339, 72⟩) ⟨339, 8, 339, 72⟩)
    (.cons (.ret (.tup (.cons (.str 58 0 ⟨340, 16, 340, 23⟩) (.cons (.lv 51 ⟨340, 25, 340, 29⟩) (.cons (.bin .add (.lv 52 ⟨340, 31, 340, 35⟩) (.int 1 0 ⟨340, 38, 340, 39⟩) ⟨340, 31, 340, 39⟩) (.cons (.lv 72 ⟨340, 41, 340, 46⟩) (.cons (.ite (.cmp .eq (.lv 28 ⟨340, 86, 340, 89⟩) (.int 4 0 ⟨340, 93, 340, 94⟩) ⟨340, 86, 340, 94⟩) (.call 132 ⟨340, 48, 340, 57⟩ (.cons (.lv 105 ⟨340, 58, 340, 64⟩) (.cons (.bin .sub (.lv 38 ⟨340, 66, 340, 70⟩) (.int 1 0 ⟨340, 73, 340, 74⟩) ⟨340, 66, 340, 74⟩) (.cons (.lv 66 ⟨340, 76, 340, 81⟩) .nil))) ⟨340, 48, 340, 82⟩) (.none 0 ⟨340, 100, 340, 104⟩) ⟨340, 48, 340, 104⟩) .nil))))) 0 ⟨340, 15, 340, 105⟩) ⟨340, 8, 340, 105⟩)
    .nil)))))
    .nil ⟨335, 4, 340, 105⟩)
    (.cons (.asg 24 ⟨341, 4, 341, 7⟩ (.ite (.cmp .lt (.lv 28 ⟨341, 48, 341, 51⟩) (.int 14 0 ⟨341, 54, 341, 56⟩) ⟨341, 48, 341, 56⟩) (.call 132 ⟨341, 10, 341, 19⟩ (.cons (.lv 105 ⟨341, 20, 341, 26⟩) (.cons (.bin .sub (.lv 38 ⟨341, 28, 341, 32⟩) (.int 1 0 ⟨341, 35, 341, 36⟩) ⟨341, 28, 341, 36⟩) (.cons (.lv 66 ⟨341, 38, 341, 43⟩) .nil))) ⟨341, 10, 341, 44⟩) (.none 0 ⟨341, 62, 341, 66⟩) ⟨341, 10, 341, 66⟩) ⟨341, 4, 341, 66⟩)
    (.cons (.ifS (.cmp .eq (.lv 28 ⟨342, 7, 342, 10⟩) (.int 6 0 ⟨342, 14, 342, 15⟩) ⟨342, 7, 342, 15⟩)
    (.cons (.asg 77 ⟨343, 8, 343, 13⟩ (.call 132 ⟨343, 16, 343, 25⟩ (.cons (.lv 105 ⟨343, 26, 343, 32⟩) (.cons (.bin .sub (.lv 38 ⟨343, 34, 343, 38⟩) (.int 1 0 ⟨343, 41, 343, 42⟩) ⟨343, 34, 343, 42⟩) (.cons (.lv 66 ⟨343, 44, 343, 49⟩) .nil))) ⟨343, 16, 343, 50⟩) ⟨343, 8, 343, 50⟩)
    (.cons (.ret (.tup (.cons (.str 10 0 ⟨344, 16, 344, 20⟩) (.cons (.lv 51 ⟨344, 22, 344, 26⟩) (.cons (.lv 52 ⟨344, 28, 344, 32⟩) (.cons (.lv 24 ⟨344, 34, 344, 37⟩) (.cons (.lv 77 ⟨344, 39, 344, 44⟩) (.cons (.ite (.cmp .eq (.bin .mod (.lv 52 ⟨344, 84, 344, 88⟩) (.int 4 0 ⟨344, 91, 344, 92⟩) ⟨344, 84, 344, 92⟩) (.int 1 0 ⟨344, 96, 344, 97⟩) ⟨344, 84, 344, 97⟩) (.call 132 ⟨344, 46, 344, 55⟩ (.cons (.lv 105 ⟨344, 56, 344, 62⟩) (.cons (.bin .sub (.lv 38 ⟨344, 64, 344, 68⟩) (.int 1 0 ⟨344, 71, 344, 72⟩) ⟨344, 64, 344, 72⟩) (.cons (.lv 66 ⟨344, 74, 344, 79⟩) .nil))) ⟨344, 46, 344, 80⟩) (.none 0 ⟨344, 103, 344, 107⟩) ⟨344, 46, 344, 107⟩) .nil)))))) 0 ⟨344, 15, 344, 108⟩) ⟨344, 8, 344, 108⟩)
    .nil))
    .nil ⟨342, 4, 344, 108⟩)
    (.cons (.ifS (.cmp .eq (.lv 28 ⟨345, 7, 345, 10⟩) (.int 7 0 ⟨345, 14, 345, 15⟩) ⟨345, 7, 345, 15⟩)
    (.cons (.asgT [(56, ⟨346, 8, 346, 12⟩), (77, ⟨346, 14, 346, 19⟩)] 0 ⟨346, 8, 346, 19⟩ (.tup (.cons (.call 117 ⟨346, 23, 346, 31⟩ (.cons (.lv 105 ⟨346, 32, 346, 38⟩) (.cons (.lst (.cons (.str 94 0 ⟨346, 41, 346, 49⟩) (.cons (.str 42 0 ⟨346, 51, 346, 57⟩) (.cons (.str 107 0 ⟨346, 59, 346, 67⟩) .nil))) ⟨346, 40, 346, 68⟩) .nil)) ⟨346, 23, 346, 69⟩) (.cons (.call 132 ⟨346, 71, 346, 80⟩ (.cons (.lv 105 ⟨346, 81, 346, 87⟩) (.cons (.bin .sub (.lv 38 ⟨346, 89, 346, 93⟩) (.int 1 0 ⟨346, 96, 346, 97⟩) ⟨346, 89, 346, 97⟩) (.cons (.lv 66 ⟨346, 99, 346, 104⟩) .nil))) ⟨346, 71, 346, 105⟩) .nil)) 0 ⟨346, 22, 346, 106⟩) ⟨346, 8, 346, 106⟩)
    (.cons (.ret (.tup (.cons (.lv 56 ⟨347, 16, 347, 20⟩) (.cons (.lv 51 ⟨347, 22, 347, 26⟩) (.cons (.lv 52 ⟨347, 28, 347, 32⟩) (.cons (.str 6 0 ⟨347, 34, 347, 38⟩) (.cons (.lv 24 ⟨347, 40, 347, 43⟩) (.cons (.lv 77 ⟨347, 45, 347, 50⟩) .nil)))))) 0 ⟨347, 15, 347, 51⟩) ⟨347, 8, 347, 51⟩)
    .nil))
    .nil ⟨345, 4, 347, 51⟩)
    (.cons (.ifS (.cmp .eq (.lv 28 ⟨348, 7, 348, 10⟩) (.int 8 0 ⟨348, 14, 348, 15⟩) ⟨348, 7, 348, 15⟩)
    (.cons (.asgT [(56, ⟨349, 8, 349, 12⟩), (77, ⟨349, 14, 349, 19⟩)] 0 ⟨349, 8, 349, 19⟩ (.tup (.cons (.call 117 ⟨349, 23, 349, 31⟩ (.cons (.lv 105 ⟨349, 32, 349, 38⟩) (.cons (.lst (.cons (.str 69 0 ⟨349, 41, 349, 48⟩) (.cons (.str 92 0 ⟨349, 50, 349, 58⟩) .nil)) ⟨349, 40, 349, 59⟩) .nil)) ⟨349, 23, 349, 60⟩) (.cons (.call 132 ⟨349, 62, 349, 71⟩ (.cons (.lv 105 ⟨349, 72, 349, 78⟩) (.cons (.bin .sub (.lv 38 ⟨349, 80, 349, 84⟩) (.int 1 0 ⟨349, 87, 349, 88⟩) ⟨349, 80, 349, 88⟩) (.cons (.lv 66 ⟨349, 90, 349, 95⟩) .nil))) ⟨349, 62, 349, 96⟩) .nil)) 0 ⟨349, 22, 349, 97⟩) ⟨349, 8, 349, 97⟩)
    (.cons (.ret (.tup (.cons (.lv 56 ⟨350, 16, 350, 20⟩) (.cons (.lv 51 ⟨350, 22, 350, 26⟩) (.cons (.lv 52 ⟨350, 28, 350, 32⟩) (.cons (.lv 24 ⟨350, 34, 350, 37⟩) (.cons (.lv 77 ⟨350, 39, 350, 44⟩) .nil))))) 0 ⟨350, 15, 350, 45⟩) ⟨350, 8, 350, 45⟩)
    .nil))
    .nil ⟨348, 4, 350, 45⟩)
    (.cons (.ifS (.cmp .eq (.lv 28 ⟨351, 7, 351, 10⟩) (.int 9 0 ⟨351, 14, 351, 15⟩) ⟨351, 7, 351, 15⟩)
    (.cons (.asgT [(56, ⟨352, 8, 352, 12⟩), (77, ⟨352, 14, 352, 19⟩)] 0 ⟨352, 8, 352, 19⟩ (.tup (.cons (.call 117 ⟨352, 23, 352, 31⟩ (.cons (.lv 105 ⟨352, 32, 352, 38⟩) (.cons (.lst (.cons (.str 35 0 ⟨352, 41, 352, 47⟩) (.cons (.str 13 0 ⟨352, 49, 352, 54⟩) .nil)) ⟨352, 40, 352, 55⟩) .nil)) ⟨352, 23, 352, 56⟩) (.cons (.call 132 ⟨352, 58, 352, 67⟩ (.cons (.lv 105 ⟨352, 68, 352, 74⟩) (.cons (.bin .sub (.lv 38 ⟨352, 76, 352, 80⟩) (.int 1 0 ⟨352, 83, 352, 84⟩) ⟨352, 76, 352, 84⟩) (.cons (.lv 66 ⟨352, 86, 352, 91⟩) .nil))) ⟨352, 58, 352, 92⟩) .nil)) 0 ⟨352, 22, 352, 93⟩) ⟨352, 8, 352, 93⟩)
    (.cons (.ret (.tup (.cons (.lv 56 ⟨353, 16, 353, 20⟩) (.cons (.lv 51 ⟨353, 22, 353, 26⟩) (.cons (.lv 52 ⟨353, 28, 353, 32⟩) (.cons (.int 0 0 ⟨353, 34, 353, 35⟩) (.cons (.ite (.cmp .eq (.lv 56 ⟨353, 53, 353, 57⟩) (.str 35 0 ⟨353, 61, 353, 67⟩) ⟨353, 53, 353, 67⟩) (.tup (.cons (.lv 24 ⟨353, 38, 353, 41⟩) (.cons (.lv 77 ⟨353, 43, 353, 48⟩) .nil)) 0 ⟨353, 37, 353, 49⟩) (.tup (.cons (.tup (.cons (.int 1 0 ⟨353, 75, 353, 76⟩) (.cons (.lv 24 ⟨353, 78, 353, 81⟩) .nil)) 0 ⟨353, 74, 353, 82⟩) (.cons (.tup (.cons (.int 0 0 ⟨353, 85, 353, 86⟩) (.cons (.lv 77 ⟨353, 88, 353, 93⟩) .nil)) 0 ⟨353, 84, 353, 94⟩) .nil)) 0 ⟨353, 73, 353, 95⟩) ⟨353, 37, 353, 95⟩) .nil))))) 0 ⟨353, 15, 353, 96⟩) ⟨353, 8, 353, 96⟩)
    .nil))
    .nil ⟨351, 4, 353, 96⟩)
    (.cons (.ifS (.cmp .eq (.lv 28 ⟨354, 7, 354, 10⟩) (.int 10 0 ⟨354, 14, 354, 16⟩) ⟨354, 7, 354, 16⟩)
    (.cons (.asg 49 ⟨355, 8, 355, 12⟩ (.lst (.cons (.tup (.cons (.str 86 0 ⟨355, 17, 355, 24⟩) (.cons (.lv 51 ⟨355, 26, 355, 30⟩) (.cons (.lv 52 ⟨355, 32, 355, 36⟩) (.cons (.str 1 0 ⟨355, 38, 355, 41⟩) (.cons (.lv 24 ⟨355, 43, 355, 46⟩) .nil))))) 0 ⟨355, 16, 355, 47⟩) (.cons (.tup (.cons (.str 95 0 ⟨355, 50, 355, 58⟩) (.cons (.lv 51 ⟨355, 60, 355, 64⟩) (.cons (.lv 52 ⟨355, 66, 355, 70⟩) (.cons (.str 23 0 ⟨355, 72, 355, 77⟩) (.cons (.lv 24 ⟨355, 79, 355, 82⟩) .nil))))) 0 ⟨355, 49, 355, 83⟩) .nil)) ⟨355, 15, 355, 84⟩) ⟨355, 8, 355, 84⟩)
    (.cons (.ret (.call 117 ⟨356, 15, 356, 23⟩ (.cons (.lv 105 ⟨356, 24, 356, 30⟩) (.cons (.bin .add (.lv 49 ⟨356, 32, 356, 36⟩) (.lst (.cons (.tup (.cons (.str 45 0 ⟨356, 41, 356, 47⟩) (.cons (.lv 51 ⟨356, 49, 356, 53⟩) (.cons (.lv 52 ⟨356, 55, 356, 59⟩) (.cons (.int 0 0 ⟨356, 61, 356, 62⟩) (.cons (.lv 24 ⟨356, 64, 356, 67⟩) .nil))))) 0 ⟨356, 40, 356, 68⟩) .nil) ⟨356, 39, 356, 69⟩) ⟨356, 32, 356, 69⟩) .nil)) ⟨356, 15, 356, 70⟩) ⟨356, 8, 356, 70⟩)
    .nil))
    .nil ⟨354, 4, 356, 70⟩)
    (.cons (.ifS (.cmp .eq (.lv 28 ⟨357, 7, 357, 10⟩) (.int 11 0 ⟨357, 14, 357, 16⟩) ⟨357, 7, 357, 16⟩)
    (.cons (.asg 56 ⟨358, 8, 358, 12⟩ (.call 117 ⟨358, 15, 358, 23⟩ (.cons (.lv 105 ⟨358, 24, 358, 30⟩) (.cons (.lst (.cons (.str 61 0 ⟨358, 33, 358, 40⟩) (.cons (.str 64 0 ⟨358, 42, 358, 49⟩) (.cons (.str 16 0 ⟨358, 51, 358, 56⟩) (.cons (.str 36 0 ⟨358, 58, 358, 64⟩) (.cons (.str 81 0 ⟨358, 66, 358, 73⟩) (.cons (.str 103 0 ⟨358, 75, 358, 83⟩) (.cons (.str 101 0 ⟨358, 85, 358, 93⟩) .nil))))))) ⟨358, 32, 358, 94⟩) .nil)) ⟨358, 15, 358, 95⟩) ⟨358, 8, 358, 95⟩)
    (.cons (.ret (.tup (.cons (.lv 56 ⟨359, 16, 359, 20⟩) (.cons (.lv 51 ⟨359, 22, 359, 26⟩) (.cons (.lv 52 ⟨359, 28, 359, 32⟩) (.cons (.lv 24 ⟨359, 34, 359, 37⟩) (.cons (.int 2 0 ⟨359, 39, 359, 40⟩) .nil))))) 0 ⟨359, 15, 359, 41⟩) ⟨359, 8, 359, 41⟩)
    .nil))
    .nil ⟨357, 4, 359, 41⟩)
    (.cons (.ifS (.cmp .eq (.lv 28 ⟨360, 7, 360, 10⟩) (.int 12 0 ⟨360, 14, 360, 16⟩) ⟨360, 7, 360, 16⟩)
    (.cons (.asgT [(56, ⟨361, 8, 361, 12⟩), (77, ⟨361, 14, 361, 19⟩)] 0 ⟨361, 8, 361, 19⟩ (.tup (.cons (.call 117 ⟨361, 23, 361, 31⟩ (.cons (.lv 105 ⟨361, 32, 361, 38⟩) (.cons (.lst (.cons (.str 84 0 ⟨361, 41, 361, 48⟩) (.cons (.str 57 0 ⟨361, 50, 361, 57⟩) .nil)) ⟨361, 40, 361, 58⟩) .nil)) ⟨361, 23, 361, 59⟩) (.cons (.call 132 ⟨361, 61, 361, 70⟩ (.cons (.lv 105 ⟨361, 71, 361, 77⟩) (.cons (.bin .sub (.lv 38 ⟨361, 79, 361, 83⟩) (.int 1 0 ⟨361, 86, 361, 87⟩) ⟨361, 79, 361, 87⟩) (.cons (.lv 66 ⟨361, 89, 361, 94⟩) .nil))) ⟨361, 61, 361, 95⟩) .nil)) 0 ⟨361, 22, 361, 96⟩) ⟨361, 8, 361, 96⟩)
    (.cons (.ret (.tup (.cons (.lv 56 ⟨362, 16, 362, 20⟩) (.cons (.lv 51 ⟨362, 22, 362, 26⟩) (.cons (.lv 52 ⟨362, 28, 362, 32⟩) (.cons (.tup (.cons (.lv 24 ⟨362, 35, 362, 38⟩) (.cons (.lv 77 ⟨362, 40, 362, 45⟩) .nil)) 0 ⟨362, 34, 362, 46⟩) .nil)))) 0 ⟨362, 15, 362, 47⟩) ⟨362, 8, 362, 47⟩)
    .nil))
    .nil ⟨360, 4, 362, 47⟩)
    (.cons (.ifS (.cmp .eq (.lv 28 ⟨363, 7, 363, 10⟩) (.int 13 0 ⟨363, 14, 363, 16⟩) ⟨363, 7, 363, 16⟩)
    (.cons (.ret (.tup (.cons (.str 59 0 ⟨364, 16, 364, 23⟩) (.cons (.lv 51 ⟨364, 25, 364, 29⟩) (.cons (.lv 52 ⟨364, 31, 364, 35⟩) (.cons (.int 0 0 ⟨364, 37, 364, 38⟩) (.cons (.lv 24 ⟨364, 40, 364, 43⟩) .nil))))) 0 ⟨364, 15, 364, 44⟩) ⟨364, 8, 364, 44⟩)
    .nil)
    .nil ⟨363, 4, 364, 44⟩)
    (.cons (.ret (.call 117 ⟨365, 11, 365, 19⟩ (.cons (.lv 105 ⟨365, 20, 365, 26⟩) (.cons (.lst (.cons (.tup (.cons (.str 60 0 ⟨365, 30, 365, 37⟩) (.cons (.lv 51 ⟨365, 39, 365, 43⟩) (.cons (.lv 52 ⟨365, 45, 365, 49⟩) (.cons (.bool true 0 ⟨365, 51, 365, 55⟩) .nil)))) 0 ⟨365, 29, 365, 56⟩) (.cons (.tup (.cons (.str 73 0 ⟨365, 59, 365, 66⟩) (.cons (.lv 51 ⟨365, 68, 365, 72⟩) (.cons (.lv 52 ⟨365, 74, 365, 78⟩) (.cons (.int 0 0 ⟨365, 80, 365, 81⟩) .nil)))) 0 ⟨365, 58, 365, 82⟩) (.cons (.tup (.cons (.str 59 0 ⟨365, 85, 365, 92⟩) (.cons (.lv 51 ⟨365, 94, 365, 98⟩) (.cons (.lv 52 ⟨365, 100, 365, 104⟩) (.cons (.int 0 0 ⟨365, 106, 365, 107⟩) (.cons (.none 0 ⟨365, 109, 365, 113⟩) .nil))))) 0 ⟨365, 84, 365, 114⟩) .nil))) ⟨365, 28, 365, 115⟩) .nil)) ⟨365, 11, 365, 116⟩) ⟨365, 4, 365, 116⟩)
    .nil))))))))))))))⟩
noncomputable def f_law : Fn := ⟨[104], ⟨[104, 39, 24, 70, 78, 90, 4, 66, 54, 14], [], [131, 135, 82, 21, 22, 19, 132, 133]⟩,
    (.cons (.asgT [(39, ⟨374, 4, 374, 8⟩), (24, ⟨374, 10, 374, 13⟩)] 0 ⟨374, 4, 374, 13⟩ (.tup (.cons (.tup (.cons (.str 55 0 ⟨374, 18, 374, 24⟩) (.cons (.call 131 ⟨374, 26, 374, 35⟩ .nil ⟨374, 26, 374, 37⟩) .nil)) 0 ⟨374, 17, 374, 38⟩) (.cons (.tup (.cons (.str 60 0 ⟨374, 41, 374, 48⟩) (.cons (.call 131 ⟨374, 50, 374, 59⟩ .nil ⟨374, 50, 374, 61⟩) (.cons (.int 3 0 ⟨374, 63, 374, 64⟩) (.cons (.bool true 0 ⟨374, 66, 374, 70⟩) .nil)))) 0 ⟨374, 40, 374, 71⟩) .nil)) 0 ⟨374, 16, 374, 72⟩) ⟨374, 4, 374, 72⟩)
    (.cons (.asg 70 ⟨375, 4, 375, 9⟩ (.tup (.cons (.str 74 0 ⟨375, 13, 375, 20⟩) (.cons (.call 131 ⟨375, 22, 375, 31⟩ .nil ⟨375, 22, 375, 33⟩) (.cons (.int 7 0 ⟨375, 35, 375, 36⟩) (.cons (.lv 24 ⟨375, 38, 375, 41⟩) (.cons (.tup (.cons (.tup (.cons (.tup (.cons (.str 60 0 ⟨375, 46, 375, 53⟩) (.cons (.call 131 ⟨375, 55, 375, 64⟩ .nil ⟨375, 55, 375, 66⟩) (.cons (.bool true 0 ⟨375, 68, 375, 72⟩) .nil))) 0 ⟨375, 45, 375, 73⟩) (.cons (.none 0 ⟨375, 75, 375, 79⟩) (.cons (.lv 24 ⟨375, 81, 375, 84⟩) .nil))) 0 ⟨375, 44, 375, 85⟩) .nil) 0 ⟨375, 43, 375, 87⟩) .nil))))) 0 ⟨375, 12, 375, 88⟩) ⟨375, 4, 375, 88⟩)
    (.cons (.asg 78 ⟨376, 4, 376, 9⟩ (.tup (.cons (.str 74 0 ⟨376, 13, 376, 20⟩) (.cons (.call 131 ⟨376, 22, 376, 31⟩ .nil ⟨376, 22, 376, 33⟩) (.cons (.int 5 0 ⟨376, 35, 376, 36⟩) (.cons (.lv 24 ⟨376, 38, 376, 41⟩) (.cons (.tup (.cons (.tup (.cons (.lv 39 ⟨376, 45, 376, 49⟩) (.cons (.lv 70 ⟨376, 51, 376, 56⟩) (.cons (.lv 24 ⟨376, 58, 376, 61⟩) .nil))) 0 ⟨376, 44, 376, 62⟩) (.cons (.tup (.cons (.lv 39 ⟨376, 65, 376, 69⟩) (.cons (.none 0 ⟨376, 71, 376, 75⟩) (.cons (.lv 24 ⟨376, 77, 376, 80⟩) .nil))) 0 ⟨376, 64, 376, 81⟩) .nil)) 0 ⟨376, 43, 376, 82⟩) .nil))))) 0 ⟨376, 12, 376, 83⟩) ⟨376, 4, 376, 83⟩)
    (.cons (.asg 90 ⟨377, 4, 377, 9⟩ (.tup (.cons (.str 60 0 ⟨377, 13, 377, 20⟩) (.cons (.call 131 ⟨377, 22, 377, 31⟩ .nil ⟨377, 22, 377, 33⟩) (.cons (.bool true 0 ⟨377, 35, 377, 39⟩) .nil))) 0 ⟨377, 12, 377, 40⟩) ⟨377, 4, 377, 40⟩)
    (.cons (.ifS (.or (.cons (.cmp .ne (.call 135 ⟨378, 7, 378, 16⟩ (.cons (.lv 78 ⟨378, 17, 378, 22⟩) (.cons (.lv 39 ⟨378, 24, 378, 28⟩) .nil)) ⟨378, 7, 378, 29⟩) (.tup (.cons (.int 7 0 ⟨378, 34, 378, 35⟩) (.cons (.str 97 0 ⟨378, 37, 378, 45⟩) .nil)) 0 ⟨378, 33, 378, 46⟩) ⟨378, 7, 378, 46⟩) (.cons (.cmp .ne (.call 135 ⟨378, 50, 378, 59⟩ (.cons (.lv 70 ⟨378, 60, 378, 65⟩) (.cons (.lv 90 ⟨378, 67, 378, 72⟩) .nil)) ⟨378, 50, 378, 73⟩) (.tup (.cons (.int 0 0 ⟨378, 78, 378, 79⟩) (.cons (.str 142 0 ⟨378, 81, 378, 92⟩) .nil)) 0 ⟨378, 77, 378, 93⟩) ⟨378, 50, 378, 93⟩) .nil)) ⟨378, 7, 378, 93⟩)
    (.cons (.ret (.bool false 0 ⟨379, 15, 379, 20⟩) ⟨379, 8, 379, 20⟩)
    .nil)
    .nil ⟨378, 4, 379, 20⟩)
    (.cons (.forS (.one 4 ⟨380, 8, 380, 9⟩) (.range 82 ⟨380, 13, 380, 18⟩ (.bcall .max 21 ⟨380, 19, 380, 22⟩ (.cons (.int 1 0 ⟨380, 23, 380, 24⟩) (.cons (.bcall .min 22 ⟨380, 26, 380, 29⟩ (.cons (.int 2 0 ⟨380, 30, 380, 31⟩) (.cons (.bcall .len 19 ⟨380, 33, 380, 36⟩ (.cons (.lv 104 ⟨380, 37, 380, 43⟩) .nil) ⟨380, 33, 380, 44⟩) .nil)) ⟨380, 26, 380, 45⟩) .nil)) ⟨380, 19, 380, 46⟩) ⟨380, 13, 380, 47⟩)
    (.cons (.asg 66 ⟨381, 8, 381, 13⟩ (.lst .nil ⟨381, 16, 381, 18⟩) ⟨381, 8, 381, 18⟩)
    (.cons (.asg 54 ⟨382, 8, 382, 12⟩ (.call 132 ⟨382, 15, 382, 24⟩ (.cons (.call 133 ⟨382, 25, 382, 34⟩ (.cons (.lv 104 ⟨382, 35, 382, 41⟩) (.cons (.lv 4 ⟨382, 43, 382, 44⟩) .nil)) ⟨382, 25, 382, 45⟩) (.cons (.int 3 0 ⟨382, 47, 382, 48⟩) (.cons (.lv 66 ⟨382, 50, 382, 55⟩) .nil))) ⟨382, 15, 382, 56⟩) ⟨382, 8, 382, 56⟩)
    (.cons (.asg 14 ⟨383, 8, 383, 11⟩ (.comp (.lv 26 ⟨383, 15, 383, 18⟩) (.one 26 ⟨383, 23, 383, 26⟩) (.lv 66 ⟨383, 30, 383, 35⟩) (.yes (.cmp .ne (.idx (.lv 26 ⟨383, 39, 383, 42⟩) (.int 1 0 ⟨383, 43, 383, 44⟩) ⟨383, 39, 383, 45⟩) (.str 0 0 ⟨383, 49, 383, 51⟩) ⟨383, 39, 383, 51⟩)) [(7, .local), (26, .local)] ⟨[26], [], []⟩ [] ⟨383, 14, 383, 52⟩) ⟨383, 8, 383, 52⟩)
    (.cons (.ifS (.cmp .ne (.call 135 ⟨384, 11, 384, 20⟩ (.cons (.lv 54 ⟨384, 21, 384, 25⟩) (.cons (.lv 39 ⟨384, 27, 384, 31⟩) .nil)) ⟨384, 11, 384, 32⟩) (.ite (.cmp .ne (.lv 14 ⟨384, 47, 384, 50⟩) (.lst .nil ⟨384, 54, 384, 56⟩) ⟨384, 47, 384, 56⟩) (.idx (.lv 14 ⟨384, 37, 384, 40⟩) (.int 0 0 ⟨384, 41, 384, 42⟩) ⟨384, 37, 384, 43⟩) (.none 0 ⟨384, 62, 384, 66⟩) ⟨384, 37, 384, 66⟩) ⟨384, 11, 384, 67⟩)
    (.cons (.ret (.bool false 0 ⟨385, 19, 385, 24⟩) ⟨385, 12, 385, 24⟩)
    .nil)
    .nil ⟨384, 8, 385, 24⟩)
    .nil)))) ⟨380, 4, 385, 24⟩)
    (.cons (.ret (.bool true 0 ⟨386, 11, 386, 15⟩) ⟨386, 4, 386, 15⟩)
    .nil)))))))⟩
noncomputable def told_args : IEs := (.cons (.str 3 0 ⟨368, 30, 368, 33⟩) (.cons (.lst .nil ⟨368, 35, 368, 37⟩) (.cons (.tup (.cons (.lv 112 ⟨368, 40, 368, 47⟩) .nil) 0 ⟨368, 39, 368, 49⟩) (.cons (.call 131 ⟨368, 51, 368, 60⟩ .nil ⟨368, 51, 368, 62⟩) (.cons (.lv 54 ⟨368, 64, 368, 68⟩) .nil)))))
noncomputable def told_suite : ISs := (.cons (.asg 88 ⟨370, 8, 370, 13⟩ (.comp (.lv 56 ⟨370, 17, 370, 21⟩) (.one 56 ⟨370, 26, 370, 30⟩) (.lst (.cons (.str 97 0 ⟨370, 35, 370, 43⟩) (.cons (.str 124 0 ⟨370, 45, 370, 55⟩) (.cons (.str 142 0 ⟨370, 57, 370, 68⟩) (.cons (.str 20 0 ⟨370, 70, 370, 75⟩) .nil)))) ⟨370, 34, 370, 76⟩) (.yes (.cmp .in_ (.lv 56 ⟨370, 80, 370, 84⟩) (.hook 1 63 110 ⟨370, 88, 370, 93⟩ ⟨370, 88, 370, 101⟩) ⟨370, 80, 370, 101⟩)) [(7, .local), (56, .local), (63, .free)] ⟨[56], [63], []⟩ [63] ⟨370, 16, 370, 102⟩) ⟨370, 8, 370, 102⟩)
    (.cons (.ret (.tup (.cons (.hook 1 63 52 ⟨371, 16, 371, 21⟩ ⟨371, 16, 371, 26⟩) (.cons (.ite (.cmp .ne (.lv 88 ⟨371, 40, 371, 45⟩) (.lst .nil ⟨371, 49, 371, 51⟩) ⟨371, 40, 371, 51⟩) (.idx (.lv 88 ⟨371, 28, 371, 33⟩) (.int 0 0 ⟨371, 34, 371, 35⟩) ⟨371, 28, 371, 36⟩) (.str 0 0 ⟨371, 57, 371, 59⟩) ⟨371, 28, 371, 59⟩) .nil)) 0 ⟨371, 15, 371, 60⟩) ⟨371, 8, 371, 60⟩)
    .nil))
noncomputable def fns : List (Nat × Fn) := [(31, f_bare), (99, f_opened), (149, f_constructors), (156, f_parts_of), (83, f_taken), (123, f_narrowed), (113, f_rest_of), (118, f_are_wild), (140, f_is_useful), (154, f_is_useful_by_parts), (155, f_rebuilt), (122, f_left_out), (151, f_left_out_wild), (139, f_has_value), (111, f_missing), (114, f_useless), (121, f_inner_of), (153, f_inner_of_match), (152, f_inner_of_block), (145, f_check_arms), (146, f_check_lets), (133, f_law_pool), (134, f_law_take), (117, f_law_one), (131, f_law_bool), (130, f_law_arms), (132, f_law_node)]
noncomputable abbrev k_law_told : Nat := 135
noncomputable abbrev k_check_matches : Nat := 150
noncomputable abbrev k_TypedFn : Nat := 108
noncomputable abbrev k_PatternFault : Nat := 148
noncomputable abbrev k_tree : Nat := 54
noncomputable abbrev k_pattern : Nat := 112
noncomputable abbrev k_fault : Nat := 63
noncomputable abbrev k_words : Nat := 88
noncomputable abbrev k_message : Nat := 110
noncomputable abbrev k_spot : Nat := 52
noncomputable abbrev k_params : Nat := 100
noncomputable abbrev k_body : Nat := 33
noncomputable abbrev k_law_bool : Nat := 131
noncomputable abbrev k_typed_fn : Nat := 126
noncomputable abbrev k_law_node : Nat := 132
noncomputable abbrev k_law_take : Nat := 134
noncomputable abbrev k_law_one : Nat := 117
noncomputable abbrev k_inner_of : Nat := 121
noncomputable abbrev k_check_arms : Nat := 145
noncomputable abbrev k_check_lets : Nat := 146
noncomputable abbrev k_missing : Nat := 111
noncomputable abbrev k_useless : Nat := 114
noncomputable abbrev k_leaves : Nat := 97
noncomputable abbrev k_no_value : Nat := 124
noncomputable abbrev k_parameter : Nat := 142
noncomputable abbrev k_let : Nat := 20
noncomputable abbrev k_script : Nat := 104
noncomputable abbrev k_law_pool : Nat := 133
noncomputable abbrev k_law_arms : Nat := 130
noncomputable def giF (x : Nat) : Option Int := if Nat.beq x 129 then some 30 else none
noncomputable def biF : Bi → Nat → Bool
  | .len, x => Nat.beq x 19
  | .list, x => Nat.beq x 44
  | .tuple, x => Nat.beq x 84
  | .int, x => Nat.beq x 17
  | .max, x => Nat.beq x 21
  | .min, x => Nat.beq x 22
  | .range, x => Nat.beq x 82
noncomputable def rzF (x : Nat) : Bool := Nat.beq x 148
noncomputable def Gx0 : Gx := ⟨giF, fun _ _ => none, biF, rzF, tb.length, fun _ => none⟩
noncomputable def run : Nat → Psi
  | 0, _, _, _ => none
  | n + 1, f, args, σ => match fns.lookup f with
    | some fn => callFn Gx0 (run n) fn args σ
    | none => none
end Mine
end
section
open PySem PySem.W PyProof.Rows PySem.Calls
set_option maxRecDepth 100000
set_option linter.unusedVariables false
set_option autoImplicit false
namespace Mine

structure Cx where
  T : Tab
  prog : Program
  w : World
  h₀ : Heap
  mg : Str → Option Value
  mb : Str → Option Value
  hg : h₀.Ns mainGlobals mg
  hb : h₀.Ns builtinsNs mb
  lim : h₀.NoLimit
  xcls : Value
  ob : Nat → Option (List Int)
  hob : ∀ a l, ob a = some l → ∃ vals n, h₀.get? a = some (W.listOf vals.toArray n) ∧ RvL T [] h₀ vals (l.map V.int)

structure Ok (c : Cx) (ρ : List Addr) (σ : Store) (h : Heap) : Prop where
  st : St c.T ρ σ h
  base : ∀ b o, c.h₀.get? b = some o → h.get? b = some o
  off : ∀ a ∈ ρ, c.h₀.get? a = none

/-- no exception is handled, or one of which the context is none -/
noncomputable def HdOk (c : Cx) (A : Around) : Prop := A.handled = none ∨ ∃ x o vs, A.handled = some (.ref x) ∧ c.h₀.get? x = some o ∧ o.data = .fields vs ∧ vs[2]? = some .none
structure Room (c : Cx) (b : Bool) (A : Around) (n : Nat) : Prop where
  handled : b = true → A.handled = none
  ends : HdOk c A
  depth : A.depth + n + 8 < recursionLimit
  units : A.units + 8 * n + 80 < cLine

noncomputable def Run {α : Type} (c : Cx) (A : Around) (ρ : List Addr) (s : Shared) (t : Sem α) (σ' : Store) (P : α → List Addr → Heap → Prop) : Prop :=
  ∀ (Q : α → Shared → Prop) (E : Value → Shared → Prop), (∀ a ρ' h' tk, Grow ρ s.heap ρ' h' → Ok c ρ' σ' h' → P a ρ' h' → Q a { s with heap := h', toks := tk }) → wpAny (model c.prog c.w) A t Q E s
noncomputable abbrev RunV (c : Cx) (A : Around) (ρ : List Addr) (s : Shared) (t : Sem Value) (v : V) (σ' : Store) : Prop := Run c A ρ s t σ' fun x ρ' h' => Rv c.T ρ' h' x v

section
variable {c : Cx} {A : Around} {ρ : List Addr} {σ σ' : Store} {s : Shared}

theorem Ok.push {h : Heap} (O : Ok c ρ σ h) (o : Obj) : Ok c ρ σ (h.push o) := ⟨O.st.push o, fun b x e => Heap.get?_push_of_some o (O.base b x e), O.off⟩
theorem Ok.ext {h h' : Heap} (O : Ok c ρ σ h) (hk : ∀ b o, h.get? b = some o → h'.get? b = some o) : Ok c ρ σ h' := ⟨O.st.ext hk, fun b x e => hk _ _ (O.base b x e), O.off⟩
theorem Ok.pushList {h : Heap} (O : Ok c ρ σ h) {vals : List Value} {l : List V} (n : Nat) (r : RvL c.T ρ h vals l) : Ok c (ρ ++ [h.objs.size]) (σ ++ [l]) (h.push (listOf vals.toArray n)) :=
  ⟨O.st.pushList n r, fun b x e => Heap.get?_push_of_some _ (O.base b x e), fun a ha => by
    rcases List.mem_append.mp ha with ha | ha
    · exact O.off a ha
    · rw [List.mem_singleton.mp ha]
      cases q : c.h₀.get? h.objs.size with
      | none => rfl
      | some o => exact absurd (Heap.lt_size (O.base _ _ q)) (Nat.lt_irrefl _)⟩
theorem Ok.set {h h' : Heap} (O : Ok c ρ σ h) {k : Nat} {a : Addr} {vals : List Value} {l : List V} {n : Nat} (hk : ρ[k]? = some a) (hs : Heap.SameBut a h h') (hg : h'.get? a = some (listOf vals.toArray n)) (r : RvL c.T ρ h vals l) :
    Ok c ρ (σ.set k l) h' :=
  ⟨O.st.set hk hs hg r, fun b x e => (hs.2 b fun q => by
    have := O.off a (List.mem_of_getElem? hk)
    rw [← q, e] at this; cases this).trans (O.base b x e), O.off⟩
theorem Ok.grow {ρ' : List Addr} {h h' : Heap} (O : Ok c ρ σ h) (g : Grow ρ h ρ' h') (hb : ∀ b o, c.h₀.get? b = some o → h'.get? b = some o) (S : St c.T ρ' σ' h') : Ok c ρ' σ' h' := by
  refine ⟨S, hb, fun a ha => ?_⟩
  obtain ⟨m, rfl, hm⟩ := g.more
  rcases List.mem_append.mp ha with ha | ha
  · exact O.off a ha
  · cases q : c.h₀.get? a with
    | none => rfl
    | some o => have := O.base a o q; rw [hm a ha] at this; cases this
theorem Ok.but {h h' : Heap} (O : Ok c ρ σ h) {L : Addr} (hs : Heap.SameBut L h h') (hL : L ∉ ρ) (ht : ∀ vals n, h.get? L ≠ some { cls := .type "tuple", data := .seq vals n }) (h0 : c.h₀.get? L = none) : Ok c ρ σ h' :=
  ⟨O.st.but hs.extBut hL ht, fun b o e => (hs.2 b fun q => by rw [q, h0] at e; cases e).trans (O.base b o e), O.off⟩

theorem lim_is : lim = 1000000 := rfl
theorem okL_le {α : Type} {l : List α} (h : okL l = true) : l.length ≤ 1000000 := Nat.le_of_ble_eq_true h
theorem fits {n : Nat} (h : n ≤ 1000000) : n ≤ sizeLine := by rw [sizeLine_eq]; omega

/-- a value as it stands, the heap as it was -/
theorem Run.here {x : Value} {v : V} (O : Ok c ρ σ s.heap) (r : Rv c.T ρ s.heap x v) {Q : Value → Shared → Prop}
    (hQ : ∀ a ρ' h' tk, Grow ρ s.heap ρ' h' → Ok c ρ' σ h' → Rv c.T ρ' h' a v → Q a { s with heap := h', toks := tk }) (tk : Nat) : Q x { s with toks := tk } :=
  hQ x ρ s.heap tk (Grow.refl ..) O r

theorem newTuple_ok {vals : List Value} {l : List V} (O : Ok c ρ σ s.heap) (r : RvL c.T ρ s.heap vals l) (hl : l.length ≤ 1000000) : RunV c A ρ s (newTuple vals) (.tup l) σ := by
  intro Q E hQ
  have hsz : vals.length ≤ sizeLine := fits (by rw [r.length]; exact hl)
  refine wpAny_newObj_type (hQ _ ρ _ s.toks (Grow.push ..) (O.push _) (Rv.tup' (Heap.get?_push_size _ rfl) (r.mono ⟨[], by simp⟩ fun a vals n e => Heap.get?_push_of_some _ e))) ?_
  show vals.toArray.size ≤ sizeLine
  rw [List.size_toArray]; exact hsz
theorem ref_last {h : Heap} (O : Ok c ρ σ h) {h' : Heap} {a : Addr} : Rv c.T (ρ ++ [a]) h' (.ref a) (.ref σ.length) := by
  refine .ref _ _ ?_
  rw [← O.st.len]; simp
theorem newList_ok {vals : List Value} {l : List V} (O : Ok c ρ σ s.heap) (r : RvL c.T ρ s.heap vals l) (hl : l.length ≤ 1000000) : RunV c A ρ s (newList vals) (.ref σ.length) (σ ++ [l]) := by
  intro Q E hQ
  have hsz : vals.length ≤ sizeLine := fits (by rw [r.length]; exact hl)
  refine wpAny_newObj_type (hQ _ _ _ s.toks (Grow.pushList ..) (O.pushList 0 r) (ref_last O)) ?_
  show vals.toArray.size ≤ sizeLine
  rw [List.size_toArray]; exact hsz

theorem smallI_lt {i : Int} (h : smallI i = true) : i.natAbs < 18446744073709551616 := Nat.le_of_ble_eq_true h
theorem blt_lt {a b : Nat} (h : Nat.blt a b = true) : a < b := Nat.le_of_ble_eq_true h

theorem St.listAt {h : Heap} {T : Tab} (S : St T ρ σ h) {k : Nat} {a : Addr} {l : List V} (hk : ρ[k]? = some a) (hl : σ[k]? = some l) : ∃ vals n, h.get? a = some (listOf vals.toArray n) ∧ RvL T ρ h vals l := S.lst k a l hk hl
theorem Rv.refInv {T : Tab} {h : Heap} {x : Value} {k : Nat} (r : Rv T ρ h x (.ref k)) : ∃ a, x = .ref a ∧ ρ[k]? = some a := by
  cases r with | ref k a e => exact ⟨a, rfl, e⟩

noncomputable def opOf : Op → Operator
  | .add => .Add | .sub => .Sub | .mul => .Mult | .fdiv => .FloorDiv | .mod => .Mod | .pow => .Pow

theorem flat_replicate {T : Tab} {h : Heap} {vals : List Value} {l : List V} (r : RvL T ρ h vals l) : ∀ n, RvL T ρ h (List.replicate n vals).flatten (List.replicate n l).flatten
  | 0 => trivial
  | n + 1 => by
    rw [List.replicate_succ, List.replicate_succ, List.flatten_cons, List.flatten_cons]
    exact r.append (flat_replicate r n)
theorem foldl_app (items : List Value) : ∀ (n : Nat) (acc : List Value), List.foldl (fun (x1 x2 : Array Value) => x1 ++ x2) acc.toArray (List.replicate n items.toArray) = (acc ++ (List.replicate n items).flatten).toArray
  | 0, acc => by simp
  | n + 1, acc => by
    rw [List.replicate_succ, List.foldl_cons, List.replicate_succ, List.flatten_cons]
    have e : acc.toArray ++ items.toArray = (acc ++ items).toArray := by simp
    rw [e, foldl_app items n (acc ++ items), List.append_assoc]

theorem addT_ok {x y : Value} {a b : List V} {v : V} (O : Ok c ρ σ s.heap) (ra : Rv c.T ρ s.heap x (.tup a)) (rb : Rv c.T ρ s.heap y (.tup b)) (e : mkTup (a ++ b) σ = some (v, σ')) : RunV c A ρ s (binaryOp .Add x y) v σ' := by
  intro Q E hQ
  unfold mkTup at e
  split at e
  · rename_i hl
    cases e
    obtain ⟨t, vs, n, rfl, ht, r1⟩ := ra.tupInv
    obtain ⟨u, ws, m, rfl, hu, r2⟩ := rb.tupInv
    have hle := okL_le hl
    have hlen : vs.length + ws.length ≤ 1000000 := by rw [r1.length, r2.length, ← List.length_append]; exact hle
    by_cases h1 : vs = []
    · subst h1
      have e1 : a = [] := by have := r1.length; exact List.eq_nil_of_length_eq_zero this.symm
      subst e1
      exact concat_meets ⟨_, ht, rfl⟩ ⟨_, hu, rfl⟩ noFill_tuple_add seq_tuple_add PySem.F.slot_tuple_add PySem.F.entry_tuple_add (PySem.F.args_tuple_add_2 _ _)
        (tuple_addW0 t u _ _ n m none none #[] #[] rfl) ⟨ht, hu, hQ _ ρ s.heap s.toks (Grow.refl ..) O (by simpa using rb)⟩
    · by_cases h2 : ws = []
      · subst h2
        have e1 : b = [] := by have := r2.length; exact List.eq_nil_of_length_eq_zero this.symm
        subst e1
        exact concat_meets ⟨_, ht, rfl⟩ ⟨_, hu, rfl⟩ noFill_tuple_add seq_tuple_add PySem.F.slot_tuple_add PySem.F.entry_tuple_add (PySem.F.args_tuple_add_2 _ _)
          (tuple_addW1 t u _ _ n m none none #[] #[] (by simpa using h1) rfl) ⟨ht, hu, hQ _ ρ s.heap s.toks (Grow.refl ..) O (by simpa using ra)⟩
      · refine concat_meets ⟨_, ht, rfl⟩ ⟨_, hu, rfl⟩ noFill_tuple_add seq_tuple_add PySem.F.slot_tuple_add PySem.F.entry_tuple_add (PySem.F.args_tuple_add_2 _ _)
          (tuple_addW2 t u _ _ n m none none #[] #[] (by simpa using h1) (by simpa using h2) (by rw [List.size_toArray, List.size_toArray]; exact fits hlen)) ⟨ht, hu, ?_⟩
        refine hQ _ ρ _ s.toks (Grow.push ..) (O.push _) ?_
        have ee : vs.toArray ++ ws.toArray = (vs ++ ws).toArray := by simp
        rw [ee]
        exact Rv.tup' (Heap.get?_push_size _ rfl) ((r1.append r2).mono ⟨[], by simp⟩ fun a vals n e => Heap.get?_push_of_some _ e)
  · cases e
theorem addL_ok {x y : Value} {i j : Nat} {v : V} (O : Ok c ρ σ s.heap) (ra : Rv c.T ρ s.heap x (.ref i)) (rb : Rv c.T ρ s.heap y (.ref j)) (e : (match σ[i]?, σ[j]? with
        | some a, some b => mkLst (a ++ b) σ
        | _, _ => none) = some (v, σ')) : RunV c A ρ s (binaryOp .Add x y) v σ' := by
  intro Q E hQ
  split at e
  · rename_i la lb hi hj
    unfold mkLst at e
    split at e
    · rename_i hl
      cases e
      obtain ⟨t, rfl, ht⟩ := ra.refInv
      obtain ⟨u, rfl, hu⟩ := rb.refInv
      obtain ⟨vs, n, g1, r1⟩ := O.st.listAt ht hi
      obtain ⟨ws, m, g2, r2⟩ := O.st.listAt hu hj
      have hle := okL_le hl
      refine P.add_list g1 g2 ?_ (by rw [List.size_toArray, List.size_toArray, r1.length, r2.length, ← List.length_append]; exact fits hle)
      have ee : vs.toArray ++ ws.toArray = (vs ++ ws).toArray := by simp
      rw [ee]
      exact hQ _ _ _ s.toks (Grow.pushList ..) (O.pushList 0 (r1.append r2)) (ref_last O)
    · cases e
  · cases e
theorem mulL_ok {x y : Value} {i : Nat} {n : Int} {v : V} (O : Ok c ρ σ s.heap) (ra : Rv c.T ρ s.heap x (.ref i)) (rb : Rv c.T ρ s.heap y (.int n)) (e : (match σ[i]? with
        | some a => if decide (0 ≤ n) && decide (n ≤ 100) then mkLst (List.replicate n.toNat a).flatten σ else none
        | none => none) = some (v, σ')) : RunV c A ρ s (binaryOp .Mult x y) v σ' := by
  intro Q E hQ
  split at e
  · rename_i la hi
    split at e
    · rename_i hn
      unfold mkLst at e
      split at e
      · rename_i hl
        cases e
        obtain ⟨t, rfl, ht⟩ := ra.refInv
        obtain ⟨vs, m, g1, r1⟩ := O.st.listAt ht hi
        cases rb with
        | int _ u =>
        have hle := okL_le hl
        have h0 := of_decide_eq_true (Bool.and_eq_true_iff.mp hn).1
        have h1 := of_decide_eq_true (Bool.and_eq_true_iff.mp hn).2
        have hsz : vs.toArray.size * n.toNat ≤ 1000000 := by
          have : (List.replicate n.toNat la).flatten.length = n.toNat * la.length := by simp
          rw [this] at hle
          rw [List.size_toArray, r1.length, Nat.mul_comm]; exact hle
        have hsz' : vs.length * n.toNat ≤ 1000000 := by rw [List.size_toArray] at hsz; exact hsz
        refine wpAny_binaryOp_repeat_ref (T := "list") (U := "int") (by decide) ⟨_, g1, rfl⟩ (fun s' => typeIs_int s' n u) noFill_list_mul F.fills_int_mul F.slot_int_rmul repeat_list F.slot_int_index.lookup
          (call_meets F.slot_int_rmul (typeIs_int s n u) F.entry_int_rmul (F.args_int_rmul_2 _ _) (int___rmul___int_list n u t _ m)
            ⟨g1, rfl, ⟨_, g1, rfl⟩, call_meets F.slot_list_mul ⟨_, g1, rfl⟩ F.entry_list_mul (F.args_list_mul_2 _ _)
              (AutoListH.list___mul___list_int_3 t _ m n u (by simp [Builtin.List.listFitsIndex]; omega) (by omega) (by simp [Builtin.List.listTooLong, sizeLine]; omega))
              ⟨g1, ?_⟩⟩)
        have ef : List.foldl (fun (x1 x2 : Array Value) => x1 ++ x2) #[] (List.replicate (if vs.toArray.isEmpty = true then 0 else n.toNat) vs.toArray) = (List.replicate n.toNat vs).flatten.toArray := by
          by_cases hv : vs = []
          · subst hv; simp
          · rw [if_neg (by simpa using hv)]
            have := foldl_app vs n.toNat []
            simpa using this
        rw [ef]
        exact hQ _ _ _ s.toks (Grow.pushList ..) (O.pushList 0 (flat_replicate r1 n.toNat)) (ref_last O)
      · cases e
    · cases e
  · cases e
theorem binV_ok {op : Op} {x y : Value} {a b v : V} (O : Ok c ρ σ s.heap) (ra : Rv c.T ρ s.heap x a) (rb : Rv c.T ρ s.heap y b) (e : binV op a b σ = some (v, σ')) :
    RunV c A ρ s (binaryOp (opOf op) x y) v σ' := by
  intro Q E hQ
  unfold binV at e
  cases op <;> dsimp only at e
  · split at e
    · split at e
      · exact addT_ok O ra rb e Q E hQ
      · cases e
    · split at e
      · exact addL_ok O ra rb e Q E hQ
      · cases e
    · replace e := int2_inv e; obtain ⟨a, b, rfl, rfl, e⟩ := e
      cases e
      cases ra; cases rb
      exact PyProof.Rows.add_int (Run.here O (.int _ _) hQ _)
  · replace e := int2_inv e; obtain ⟨a, b, rfl, rfl, e⟩ := e
    cases e
    cases ra; cases rb
    exact PyProof.Rows.sub_int (Run.here O (.int _ _) hQ _)
  · split at e
    · split at e
      · exact mulL_ok O ra rb e Q E hQ
      · cases e
    · replace e := int2_inv e; obtain ⟨a, b, rfl, rfl, e⟩ := e
      split at e
      · rename_i hs
        cases e
        cases ra; cases rb
        refine PyProof.Rows.mul_int (Run.here O (.int _ _) hQ _) ?_
        rcases Bool.or_eq_true_iff.mp hs with h | h
        · exact .of_left (intBits_le (smallI_lt h))
        · exact .of_right (intBits_le (smallI_lt h))
      · cases e
  · replace e := int2_inv e; obtain ⟨a, b, rfl, rfl, e⟩ := e
    split at e
    · cases e
    · rename_i hs
      cases e
      cases ra; cases rb
      simp only [Bool.or_eq_true, decide_eq_true_eq, Bool.not_eq_true', not_or, Bool.not_eq_false] at hs
      exact PyProof.Rows.floordiv_int hs.1 (Run.here O (.int _ _) hQ _) (.inl (PyProof.noPylong_small (blt_lt hs.2)))
  · replace e := int2_inv e; obtain ⟨a, b, rfl, rfl, e⟩ := e
    split at e
    · cases e
    · rename_i hs
      cases e
      cases ra; cases rb
      exact PyProof.Rows.mod_int (by simpa using hs) (Run.here O (.int _ _) hQ _)
  · replace e := int2_inv e; obtain ⟨a, b, rfl, rfl, e⟩ := e
    split at e
    · rename_i hs
      cases e
      cases ra; cases rb
      simp only [Bool.and_eq_true, decide_eq_true_eq] at hs
      exact PyProof.Rows.pow_int_small hs.1.1 (by omega) (smallI_lt hs.2) (Run.here O (.int _ _) hQ _)
    · cases e
end
end Mine
end
section
open PySem PySem.W PyProof.Rows PySem.Calls PySem.SeqAt
set_option maxRecDepth 100000
set_option linter.unusedVariables false
set_option autoImplicit false
namespace Mine
section
variable {c : Cx} {A : Around} {ρ : List Addr} {σ σ' : Store} {s : Shared}

noncomputable def cmOf : Cm → CmpOp
  | .eq => .Eq | .ne => .NotEq | .lt => .Lt | .ge => .GtE | .gt => .Gt | .is => .Is | .isnot => .IsNot | .in_ => .In

theorem nm_beq (T : Tab) {i j : Nat} (hi : i < T.n) (hj : j < T.n) : (T.nm i == T.nm j) = Nat.beq i j := by
  rw [Bool.eq_iff_iff, beq_iff_eq]
  constructor
  · intro e; rw [T.inj i j hi hj e]; exact Nat.beq_refl j
  · intro e; rw [Nat.eq_of_beq_eq_true e]

theorem eq0_inv {a b : V} {r : Bool} (e : eq0 a b = some r) : (∃ x y, a = .bool x ∧ b = .bool y ∧ r = (x == y)) ∨ (∃ x y, a = .int x ∧ b = .int y ∧ r = decide (x = y)) ∨ ∃ x y, a = .str x ∧ b = .str y ∧ r = Nat.beq x y := by
  cases a with
  | bool x => cases b with
    | bool y => exact .inl ⟨x, y, rfl, rfl, (Option.some.inj e).symm⟩
    | _ => cases e
  | int x => cases b with
    | int y => exact .inr (.inl ⟨x, y, rfl, rfl, (Option.some.inj e).symm⟩)
    | _ => cases e
  | str x => cases b with
    | str y => exact .inr (.inr ⟨x, y, rfl, rfl, (Option.some.inj e).symm⟩)
    | _ => cases e
  | _ => cases e
theorem eq0_at {x y : Value} {a b : V} {r : Bool} {h : Heap} (ra : Rv c.T ρ h x a) (rb : Rv c.T ρ h y b) (e : eq0 a b = some r) : EqAt A s x y r := by
  rcases eq0_inv e with ⟨i, j, rfl, rfl, rfl⟩ | ⟨i, j, rfl, rfl, rfl⟩ | ⟨i, j, rfl, rfl, rfl⟩
  · cases ra; cases rb; exact EqAt.bool_bool _ _
  · cases ra; cases rb; exact EqAt.int_int _ _ _ _
  · cases ra with | str i t hi => cases rb with | str j u hj => rw [← nm_beq c.T hi hj]; exact EqAt.str_str _ _ _ _
theorem eq0_rc {x y : Value} {a b : V} {r : Bool} {h : Heap} (ra : Rv c.T ρ h x a) (rb : Rv c.T ρ h y b) (e : eq0 a b = some r) : RcAt A s x y r ∧ RcNeAt A s x y (!r) := by
  rcases eq0_inv e with ⟨i, j, rfl, rfl, rfl⟩ | ⟨i, j, rfl, rfl, rfl⟩ | ⟨i, j, rfl, rfl, rfl⟩
  · cases ra; cases rb; exact ⟨RcAt.bool_bool _ _, RcNeAt.bool_bool _ _⟩
  · cases ra; cases rb; exact ⟨RcAt.int_int _ _ _ _, RcNeAt.int_int _ _ _ _⟩
  · cases ra with | str i t hi => cases rb with | str j u hj => rw [← nm_beq c.T hi hj]; exact ⟨RcAt.str_str _ _ _ _, RcNeAt.str_str _ _ _ _⟩

/-- the places of two lists compared, as far as they are looked at -/
noncomputable def eqAtI (la lb : List V) (i : Nat) : Bool := match la[i]?, lb[i]? with
  | some a, some b => (eq0 a b).getD false
  | _, _ => false
theorem eqL_all : ∀ {la lb : List V} {r : Bool}, eqL la lb = some r → (∀ (i : Nat) (a b : V), la[i]? = some a → lb[i]? = some b → (eq0 a b).isSome = true) → la.length = lb.length → (List.range (min la.length lb.length)).all (eqAtI la lb) = r
  | [], [], r, e, _, _ => by unfold eqL at e; cases e; rfl
  | a :: la, b :: lb, r, e, H, hl => by
    have ih := fun r e => @eqL_all la lb r e (fun i x y h1 h2 => H (i + 1) x y (by simpa using h1) (by simpa using h2)) (by simpa using hl)
    have hr : (List.range (min (a :: la).length (b :: lb).length)).all (eqAtI (a :: la) (b :: lb)) = (eqAtI (a :: la) (b :: lb) 0 && (List.range (min la.length lb.length)).all (eqAtI la lb)) := by
      have : min (a :: la).length (b :: lb).length = min la.length lb.length + 1 := by simp
      rw [this, List.range_succ_eq_map, List.all_cons, List.all_map]
      congr 1
    rw [hr]
    unfold eqL at e
    split at e
    · rename_i h0
      rw [ih r e]
      simp [eqAtI, h0]
    · rename_i h0
      cases e
      simp [eqAtI, h0]
    · cases e
  | [], _ :: _, _, _, _, hl => by simp at hl
  | _ :: _, [], _, _, _, hl => by simp at hl
theorem allEq0_at : ∀ {la lb : List V}, allEq0 la lb = true → ∀ (i : Nat) (a b : V), la[i]? = some a → lb[i]? = some b → (eq0 a b).isSome = true
  | a :: la, b :: lb, h, 0, _, _, h1, h2 => by simp at h1 h2; subst h1 h2; exact (Bool.and_eq_true_iff.mp h).1
  | a :: la, b :: lb, h, i + 1, x, y, h1, h2 => allEq0_at (Bool.and_eq_true_iff.mp h).2 i x y (by simpa using h1) (by simpa using h2)
  | [], _, _, _, _, _, h1, _ => by simp at h1
  | _ :: _, [], _, _, _, _, _, h2 => by simp at h2

theorem eqV_rc {n : Nat} {x y : Value} {a b : V} {r : Bool} {bb : Bool} (R : Room c bb A n) (O : Ok c ρ σ s.heap) (ra : Rv c.T ρ s.heap x a) (rb : Rv c.T ρ s.heap y b) (e : eqV a b σ = some r) : RcAt A s x y r ∧ RcNeAt A s x y (!r) := by
  have hu : A.units < cLine := by have := R.units; omega
  cases a with
  | tup la => cases b with
    | tup lb =>
      replace e : (if Nat.beq la.length lb.length && allEq0 la lb then eqL la lb else none) = some r := e
      split at e
      · rename_i hc
        obtain ⟨t, vs, n, rfl, ht, r1⟩ := ra.tupInv
        obtain ⟨u, ws, m, rfl, hu', r2⟩ := rb.tupInv
        have hl : la.length = lb.length := Nat.eq_of_beq_eq_true (Bool.and_eq_true_iff.mp hc).1
        have ha := allEq0_at (Bool.and_eq_true_iff.mp hc).2
        have i1 : s.heap.IsTuple t vs.toArray := ⟨_, ht, rfl, n, rfl⟩
        have i2 : s.heap.IsTuple u ws.toArray := ⟨_, hu', rfl, m, rfl⟩
        have he : ∀ j (h1 : j < vs.toArray.size) (h2 : j < ws.toArray.size), EqAt A.in1 s vs.toArray[j] ws.toArray[j] (eqAtI la lb j) := by
          intro j h1 h2
          have h1' : j < vs.length := by simpa using h1
          have h2' : j < ws.length := by simpa using h2
          have k1 : j < la.length := by rw [← r1.length]; exact h1'
          have k2 : j < lb.length := by rw [← r2.length]; exact h2'
          have q := ha j la[j] lb[j] (List.getElem?_eq_getElem k1) (List.getElem?_eq_getElem k2)
          obtain ⟨bb, hb⟩ := Option.isSome_iff_exists.mp q
          have e1 : eqAtI la lb j = bb := by
            unfold eqAtI
            rw [List.getElem?_eq_getElem k1, List.getElem?_eq_getElem k2]
            simp [hb]
          rw [e1]
          have p1 := r1.get (i := j) (List.getElem?_eq_getElem h1') (List.getElem?_eq_getElem k1)
          have p2 := r2.get (i := j) (List.getElem?_eq_getElem h2') (List.getElem?_eq_getElem k2)
          have := eq0_at (A := A.in1) (s := s) p1 p2 hb
          simpa using this
        have hall := eqL_all e ha hl
        have hs : vs.toArray.size = ws.toArray.size := by simp [r1.length, r2.length, hl]
        have hv : ((List.range (min vs.toArray.size ws.toArray.size)).all (eqAtI la lb) && vs.toArray.size == ws.toArray.size) = r := by
          rw [hs]
          simp only [List.size_toArray, r2.length, beq_self_eq_true, Bool.and_true]
          rw [hl] at hall
          exact hall
        refine ⟨?_, ?_⟩
        · have z := RcAt.tuples i1 i2 hu he
          rw [hv] at z; exact z
        · have z := RcNeAt.tuples i1 i2 hu he
          rw [hv] at z; exact z
      · cases e
    | none =>
      cases e
      cases rb
      obtain ⟨u, ws, m, rfl, hu', r2⟩ := ra.tupInv
      exact ⟨RcAt.tuple_none ⟨_, hu', rfl, m, rfl⟩ hu, RcNeAt.tuple_none ⟨_, hu', rfl, m, rfl⟩ hu⟩
    | _ => cases e
  | ref i => cases b with
    | ref j =>
      replace e : (match σ[i]?, σ[j]? with
        | some a, some b => (match b with
          | [] => some a.isEmpty
          | _ :: _ => none)
        | _, _ => none) = some r := e
      split at e
      · rename_i la lb hi hj
        obtain ⟨t, rfl, ht⟩ := ra.refInv
        obtain ⟨u, rfl, hu'⟩ := rb.refInv
        obtain ⟨vs, n, g1, r1⟩ := O.st.listAt ht hi
        obtain ⟨ws, m, g2, r2⟩ := O.st.listAt hu' hj
        have i1 : s.heap.IsList t vs.toArray := ⟨_, g1, rfl, n, rfl⟩
        have i2 : s.heap.IsList u ws.toArray := ⟨_, g2, rfl, m, rfl⟩
        split at e
        · cases e
          have hw : ws = [] := List.eq_nil_of_length_eq_zero r2.length
          subst hw
          cases la with
          | nil =>
            have hv : vs = [] := List.eq_nil_of_length_eq_zero r1.length
            subst hv
            exact ⟨by simpa using RcAt.lists (e := fun _ => true) i1 i2 rfl hu (fun j h1 => absurd h1 (by simp)), by simpa using RcNeAt.lists (e := fun _ => true) i1 i2 rfl hu (fun j h1 => absurd h1 (by simp))⟩
          | cons z la =>
            have hne : (vs.toArray.size != ([] : List Value).toArray.size) = true := by simp [r1.length]
            exact ⟨by simpa using RcAt.lists_lengths i1 i2 hne hu, by simpa using RcNeAt.lists_lengths i1 i2 hne hu⟩
        · cases e
      · cases e
    | _ => cases e
  | none => cases b with
    | tup l =>
      cases e
      cases ra
      obtain ⟨u, ws, m, rfl, hu', r2⟩ := rb.tupInv
      exact ⟨RcAt.none_tuple ⟨_, hu', rfl, m, rfl⟩ hu, RcNeAt.none_tuple ⟨_, hu', rfl, m, rfl⟩ hu⟩
    | none =>
      cases e
      cases ra; cases rb
      exact ⟨RcAt.none_none, RcNeAt.none_none⟩
    | _ => cases e
  | _ => exact eq0_rc ra rb e

theorem isNone_is {x : Value} {a : V} {r : Bool} {h : Heap} (ra : Rv c.T ρ h x a) (e : isNone a = some r) : (x == Value.none) = r := by
  cases ra <;> first | (cases e; rfl) | (cases e; done)

theorem Rv.ofStr {T : Tab} {h : Heap} {x : Value} {b : V} {z : Str} {t : Tok} (r : Rv T ρ h x b) (e : x = .str z t) : ∃ j, b = .str j ∧ j < T.n ∧ z = T.nm j := by
  cases r with
  | str j u hj => injection e with e1; exact ⟨j, rfl, hj, e1.symm⟩
  | _ => cases e
theorem Rv.strInv {T : Tab} {h : Heap} {x : Value} {k : Nat} (r : Rv T ρ h x (.str k)) : ∃ t, x = .str (T.nm k) t ∧ k < T.n := by
  cases r with | str k t hk => exact ⟨t, rfl, hk⟩
theorem eq0_fun {y : Value} {a b b' : V} {r r' : Bool} {h : Heap} (rb : Rv c.T ρ h y b) (rb' : Rv c.T ρ h y b') (e : eq0 b a = some r) (e' : eq0 b' a = some r') : r = r' := by
  have : b = b' := by
    rcases eq0_inv e with ⟨i, j, rfl, rfl, rfl⟩ | ⟨i, j, rfl, rfl, rfl⟩ | ⟨i, j, rfl, rfl, rfl⟩
    · cases rb; cases rb' <;> first | rfl | (cases e'; done)
    · cases rb; cases rb' <;> first | rfl | (cases e'; done)
    · obtain ⟨t, e1, hi⟩ := rb.strInv
      obtain ⟨j, rfl, hj, hz⟩ := rb'.ofStr e1
      rw [c.T.inj _ j hi hj hz]
  subst this
  rw [e] at e'
  exact Option.some.inj e'
noncomputable def isAt (c : Cx) (ρ : List Addr) (h : Heap) (a : V) (y : Value) : Bool := @decide (∃ b, Rv c.T ρ h y b ∧ eq0 b a = some true) (Classical.propDecidable _)
theorem isAt_is {y : Value} {a b : V} {r : Bool} {h : Heap} (rb : Rv c.T ρ h y b) (e : eq0 b a = some r) : isAt c ρ h a y = r := by
  unfold isAt
  cases r with
  | true => exact @decide_eq_true _ (Classical.propDecidable _) ⟨b, rb, e⟩
  | false =>
    refine @decide_eq_false _ (Classical.propDecidable _) ?_
    rintro ⟨b', rb', e'⟩
    exact absurd (eq0_fun rb rb' e e') (by decide)
theorem in_any {a : V} {h : Heap} : ∀ {vs : List Value} {l : List V}, RvL c.T ρ h vs l → (∀ y ∈ l, (eq0 y a).isSome = true) → vs.any (isAt c ρ h a) = l.any fun y => (eq0 y a).getD false
  | [], [], _, _ => rfl
  | v :: vs, b :: l, ⟨r1, r2⟩, H => by
    obtain ⟨bb, hb⟩ := Option.isSome_iff_exists.mp (H b (.head _))
    rw [List.any_cons, List.any_cons, in_any r2 fun y hy => H y (.tail _ hy), isAt_is r1 hb, hb]
    rfl

theorem cmpV_ok {n : Nat} {op : Cm} {x y : Value} {a b : V} {r : Bool} {bb : Bool} {inS : Nat → Nat → Option Bool} (hin : ∀ i j r, inS i j = some r → i < c.T.n → j < c.T.n → (!(Builtin.Str.occurrences (c.T.nm j) (c.T.nm i) 0 (c.T.nm j).length 1).isEmpty) = r) (R : Room c bb A n) (O : Ok c ρ σ s.heap) (ra : Rv c.T ρ s.heap x a) (rb : Rv c.T ρ s.heap y b) (e : cmpV inS op a b σ = some r) :
    RunV c A ρ s (compareOp (cmOf op) x y) (.bool r) σ := by
  intro Q E hQ
  have same : ∀ tk, Q (.bool r) { s with toks := tk } := fun tk => Run.here O (.bool r) hQ tk
  unfold cmpV at e
  cases op <;> dsimp only at e
  · exact (eqV_rc R O ra rb e).1 _ _ _ _ (same s.toks)
  · obtain ⟨r', e', rfl⟩ := Option.map_eq_some_iff.mp e
    exact (eqV_rc R O ra rb e').2 _ _ _ _ (same s.toks)
  · replace e := int2_inv e; obtain ⟨a, b, rfl, rfl, e⟩ := e
    cases e; cases ra; cases rb
    exact PyProof.Rows.lt_int (same s.toks)
  · replace e := int2_inv e; obtain ⟨a, b, rfl, rfl, e⟩ := e
    cases e; cases ra; cases rb
    exact P.ge_int (same s.toks)
  · replace e := int2_inv e; obtain ⟨a, b, rfl, rfl, e⟩ := e
    cases e; cases ra; cases rb
    exact P.gt_int (same s.toks)
  · cases b <;> first | (cases e; done) | skip
    cases rb
    have := isNone_is ra e
    exact is_none_gen (by rw [this]; exact same s.toks)
  · cases b <;> first | (cases e; done) | skip
    cases rb
    obtain ⟨r', e', rfl⟩ := Option.map_eq_some_iff.mp e
    have := isNone_is ra e'
    exact isnot_none_gen (by rw [this]; exact same s.toks)
  · split at e
    · unfold inL at e
      split at e
      · rename_i l hall
        cases e
        obtain ⟨u, ws, m, rfl, hu', r2⟩ := rb.tupInv
        have H : ∀ y ∈ l, (eq0 y a).isSome = true := fun y hy => List.all_eq_true.mp hall y hy
        refine SeqRoads2.in_meets ⟨_, hu', rfl⟩ PySem.F.slot_tuple_contains PySem.F.entry_tuple_contains (PySem.F.args_tuple_contains_2 _ _) (tuple_containsAt u ws.toArray m none #[] x (isAt c ρ s.heap a)) ⟨hu', fun y hy => ?_, ?_⟩
        · have hy' : y ∈ ws := by simpa using hy
          obtain ⟨i, hi, rfl⟩ := List.getElem_of_mem hy'
          have hi' : i < l.length := by rw [← r2.length]; exact hi
          have p := r2.get (i := i) (List.getElem?_eq_getElem hi) (List.getElem?_eq_getElem hi')
          obtain ⟨bb, hb⟩ := Option.isSome_iff_exists.mp (H l[i] (List.getElem_mem hi'))
          rw [isAt_is p hb]
          exact eq0_at p ra hb
        · refine ⟨_, rfl, ?_⟩
          have : ws.toArray.any (isAt c ρ s.heap a) = l.any fun y => (eq0 y a).getD false := by rw [← in_any r2 H]; simp
          rw [this]
          exact same s.toks
      · cases e
    · split at e
      · cases ra with | str i t hi => cases rb with | str j u hj => exact PySem.P.in_str (by rw [hin _ _ _ e hi hj]; exact same s.toks)
      · cases e
    · cases e
end
end Mine
end
section
open PySem PySem.W PyProof.Rows PySem.Calls PySem.SeqAt
set_option maxRecDepth 100000
set_option linter.unusedVariables false
set_option autoImplicit false
namespace Mine
section
variable {c : Cx} {A : Around} {ρ : List Addr} {σ σ' : Store} {s : Shared}

theorem subscripted_any (slice : Expr) (o i : Value) : ∃ ops, subscripted slice false o i = operate ops (getItem o i) := by
  unfold subscripted
  split
  · exact ⟨_, rfl⟩
  · rename_i h; cases h
  · exact ⟨_, rfl⟩

theorem St.isL {T : Tab} {h : Heap} (S : St T ρ σ h) {k : Nat} {l : List V} {x : Value} (r : Rv T ρ h x (.ref k)) (hl : σ[k]? = some l) :
    ∃ a vals n, x = .ref a ∧ ρ[k]? = some a ∧ h.get? a = some (listOf vals.toArray n) ∧ RvL T ρ h vals l ∧ h.IsList a vals.toArray := by
  obtain ⟨a, rfl, ha⟩ := r.refInv
  obtain ⟨vals, n, g, r1⟩ := S.listAt ha hl
  exact ⟨a, vals, n, rfl, ha, g, r1, ⟨_, g, rfl, n, rfl⟩⟩
theorem Rv.isT {T : Tab} {h : Heap} {l : List V} {x : Value} (r : Rv T ρ h x (.tup l)) :
    ∃ a vals n, x = .ref a ∧ h.get? a = some { cls := .type "tuple", data := .seq vals.toArray n } ∧ RvL T ρ h vals l ∧ h.IsTuple a vals.toArray := by
  obtain ⟨a, vals, n, rfl, g, r1⟩ := r.tupInv
  exact ⟨a, vals, n, rfl, g, r1, ⟨_, g, rfl, n, rfl⟩⟩

/-- a list of ints that stood ahead of all -/
theorem Ok.ob {h : Heap} (O : Ok c ρ σ h) {a : Nat} {l : List Int} {x : Value} (r : Rv c.T ρ h x (.obj a)) (e : c.ob a = some l) :
    ∃ vals n, x = .ref a ∧ h.get? a = some (W.listOf vals.toArray n) ∧ RvL c.T ρ h vals (l.map V.int) ∧ h.IsList a vals.toArray := by
  cases r
  obtain ⟨vals, n, h1, h2⟩ := c.hob a l e
  have g := O.base _ _ h1
  exact ⟨vals, n, rfl, g, h2.mono ⟨ρ, rfl⟩ fun b vs m e => O.base _ _ e, ⟨_, g, rfl, n, rfl⟩⟩
theorem seqIndex_nat {k : Int} {n : Nat} (h0 : 0 ≤ k) (h : k.toNat < n) : seqIndex? k n = some k.toNat := by
  unfold seqIndex?
  have h1 : ¬ k < 0 := by omega
  have h2 : (decide (0 ≤ k) && decide (k < (n : Int))) = true := by
    rw [Bool.and_eq_true_iff]; exact ⟨decide_eq_true h0, decide_eq_true (by omega)⟩
  simp only [h1, if_false]
  exact if_pos h2
theorem idxV_ok {value slice : Expr} {x y : Value} {a b v : V} (O : Ok c ρ σ s.heap) (ra : Rv c.T ρ s.heap x a) (rb : Rv c.T ρ s.heap y b) (e : idxV c.ob a b σ = some v) :
    RunV c A ρ s (subscriptTail value slice x y) v σ := by
  intro Q E hQ
  obtain ⟨ops, hops⟩ := subscripted_any slice x y
  unfold idxV at e
  split at e
  · rename_i k
    split at e
    · rename_i hk
      have h0 := of_decide_eq_true (Bool.and_eq_true_iff.mp hk).1
      have h1 := of_decide_eq_true (Bool.and_eq_true_iff.mp hk).2
      cases rb with | int _ u =>
      split at e
      · rename_i l hl
        unfold itemsOf at hl
        split at hl
        · cases hl
          obtain ⟨t, vs, n, rfl, g, r1, hT⟩ := ra.isT
          obtain ⟨x, hx, rx⟩ := r1.at e
          refine tail_any (T := "tuple") ⟨_, g, rfl⟩ PyProof.Rows.slot_tuple_getitem.lookup (PyProof.Rows.getItem_tuple (j := k.toNat) (x := x) hT (by omega) (by omega) ?_ (by simpa using hx) (Run.here O rx hQ s.toks)) hops
          have hlt : k.toNat < vs.length := (List.getElem?_eq_some_iff.mp hx).1
          exact seqIndex_nat h0 (by rw [List.size_toArray]; exact hlt)
        · obtain ⟨t, vs, n, rfl, ht, g, r1, hL⟩ := O.st.isL ra hl
          obtain ⟨x, hx, rx⟩ := r1.at e
          exact tail_any (T := "list") ⟨_, g, rfl⟩ PySem.slot_list_getitem.lookup (PySem.wpAny_getItem_list hL h0 (by omega) (by simpa using hx) (Run.here O rx hQ s.toks)) hops
        · obtain ⟨lo, hlo, rfl⟩ := Option.map_eq_some_iff.mp hl
          obtain ⟨vs, n, rfl, g, r1, hL⟩ := O.ob ra hlo
          obtain ⟨x, hx, rx⟩ := r1.at e
          exact tail_any (T := "list") ⟨_, g, rfl⟩ PySem.slot_list_getitem.lookup (PySem.wpAny_getItem_list hL h0 (by omega) (by simpa using hx) (Run.here O rx hQ s.toks)) hops
        · cases hl
      · cases e
    · cases e
  · cases e

/-- a part of a slice -/
noncomputable def partOf : Option V → Option Int
  | some (.int i) => some i
  | _ => none
inductive RvO (T : Tab) (ρ : List Addr) (h : Heap) : Value → Option V → Prop
  | no : RvO T ρ h .none none
  | yes {x : Value} {v : V} : Rv T ρ h x v → RvO T ρ h x (some v)
theorem RvO.part {T : Tab} {h : Heap} {x : Value} {v : Option V} {d n : Nat} (r : RvO T ρ h x v) (e : natOf v d = some n) : IsPart x (partOf v) ∧ (partOf v).elim d (fun i => i.toNat) = n ∧ ∀ i, partOf v = some i → 0 ≤ i := by
  cases r with
  | no => cases e; exact ⟨.none, rfl, fun i h => by cases h⟩
  | yes r =>
    unfold natOf at e
    split at e
    · rename_i h; cases h
    · rename_i i _ h
      cases h
      split at e
      · rename_i h0
        cases e
        cases r
        exact ⟨.int _ _, rfl, fun j h => by cases h; simpa using h0⟩
      · cases e
    · cases e

theorem sliceApplied_run {sl : Addr} {a b n : Nat} {u u' : Tok} {Q : Int × Int × Nat → Shared → Prop} {E : Value → Shared → Prop} {prog : Program} {w : World} (hs : s.heap.IsSliceOf sl (.int a u) (.int b u') .none) (ha : a ≤ b) (hb : b ≤ n) (h : Q ((a : Int), 1, b - a) s) :
    wpAny (model prog w) A (Builtin.Slice.sliceApplied (.ref sl) (pure (n : Int))) Q E s := by
  obtain ⟨os, hos, hcs, hds⟩ := id hs
  unfold Builtin.Slice.sliceApplied Builtin.Slice.sliceFields
  refine wpAny_bind (wpAny_bind (wpAny_field hos hds (x := .int a u) rfl (wpAny_bind (wpAny_field hos hds (x := .int b u') rfl (wpAny_bind (wpAny_field hos hds (x := .none) rfl (wpAny_pure ?_)))))))
  refine wpAny_bind (slicePart_none ?_)
  show wpAny _ _ (if ((1 : Int) == 0) = true then _ else _) _ _ s
  rw [if_neg (by decide)]
  refine wpAny_bind (slicePart_int (wpAny_bind (slicePart_int (wpAny_bind (wpAny_pure ?_)))))
  show wpAny _ _ (match Builtin.Slice.sliceAdjust (some (a : Int)) (some (b : Int)) 1 (n : Int) with | (lo, hi) => pure (lo, (1 : Int), Builtin.Slice.slicePlaces lo hi 1)) _ _ s
  have e1 : Builtin.Slice.sliceAdjust (some (a : Int)) (some (b : Int)) 1 (n : Int) = ((a : Int), (b : Int)) := by
    unfold Builtin.Slice.sliceAdjust
    have h1 : ¬ ((1 : Int) < 0) := by omega
    have h2 : ¬ ((a : Int) < 0) := by omega
    have h3 : ¬ ((b : Int) < 0) := by omega
    simp only [h1, h2, h3, if_false]
    congr 1 <;> omega
  rw [e1]
  show wpAny _ _ (pure ((a : Int), (1 : Int), Builtin.Slice.slicePlaces (a : Int) (b : Int) 1)) _ _ s
  have e2 : Builtin.Slice.slicePlaces (a : Int) (b : Int) 1 = b - a := by
    unfold Builtin.Slice.slicePlaces
    have h1 : (1 : Int) > 0 := by omega
    simp only [h1, if_true, Int.ediv_one]
    split <;> omega
  rw [e2]
  exact wpAny_pure h

theorem getItem_tuple_cut {t sl : Addr} {items : Array Value} {a b : Nat} {u u' : Tok} {Q : Value → Shared → Prop} {E : Value → Shared → Prop} {prog : Program} {w : World} (ht : IsTup s.heap t items) (hs : s.heap.IsSliceOf sl (.int a u) (.int b u') .none) (h1 : 1 ≤ a) (ha : a ≤ b) (hb : b ≤ items.size)
    (h : Q (.ref s.heap.objs.size) { s with heap := s.heap.push { cls := .type "tuple", data := .seq ((items.toList.take b).drop a).toArray } })
    (hsz : items.size ≤ sizeLine := by size_fits) : wpAny (model prog w) A (getItem (.ref t) (.ref sl)) Q E s := by
  have hdrop : sizeOk (.seq ((items.toList.take b).drop a).toArray) := by
    show ((items.toList.take b).drop a).toArray.size ≤ sizeLine
    rw [List.size_toArray, List.length_drop, List.length_take, Array.length_toList]
    omega
  obtain ⟨os, hos, hcs, hds⟩ := id hs
  have hTs : s.TypeIs (.ref sl) "slice" := ⟨os, hos, hcs⟩
  unfold getItem
  try with_reducible refine wpAny_holding ?_
  first | refine wpAny_bind (wpAny_pure ?_) | skip
  refine wpAny_bind (wpAny_sequenceKey ht.typeIs (by decide) ?_)
  refine wpAny_bind (wpAny_callSpecial?_slot (name := Str.ofString "__getitem__") ht.typeIs PyProof.Rows.slot_tuple_getitem
    (wpAny_call_entry PyProof.Rows.slot_tuple_getitem ht.typeIs PyProof.Rows.entry_tuple_getitem ?_ (PyProof.Rows.args_tuple_getitem _ _)))
  show wpAny _ _ (Builtin.Tuple.tupleItemsOf (.ref t) >>= _) _ _ s
  refine wpAny_bind (tupleItemsOf_ ht ?_)
  refine wpAny_bind (wpAny_typeOf hTs ?_)
  rw [if_pos (by decide)]
  refine wpAny_bind (sliceApplied_run hs ha hb ?_)
  have hno : ¬ (((a : Int) == 0 && (1 : Int) == 1 && (b - a) == items.size) = true) := by
    have : ((a : Int) == 0) = false := by rw [beq_eq_false_iff_ne]; omega
    rw [this]; simp
  show wpAny _ _ (if ((a : Int) == 0 && (1 : Int) == 1 && (b - a) == items.size) = true then _ else _) _ _ s
  have ep : ((List.range (b - a)).filterMap fun (k : Nat) => items[((a : Int) + (k : Int) * 1).toNat]?).toArray = ((items.toList.take b).drop a).toArray := by
    have e : (fun (k : Nat) => items[((a : Int) + (k : Int) * 1).toNat]?) = fun k => items[a + k]? := by
      funext k
      have : ((a : Int) + (k : Int) * 1).toNat = a + k := by omega
      rw [this]
    rw [e]
    have := pick_run items a (b - a)
    rw [List.filterMap_map] at this
    have e2 : ((fun x => items[x]?) ∘ fun x => a + x) = fun k => items[a + k]? := rfl
    rw [e2] at this
    rw [this, List.drop_take]
  rw [if_neg hno, ep]
  first
    | exact wpAny_bind (m := Builtin.Tuple.tupleExact _) (wpAny_newObj_type (wpAny_pure ⟨_, rfl, wpAny_pure h⟩) hdrop)
    | exact wpAny_bind (m := Builtin.Tuple.tupleExact _) (wpAny_newObj_type (wpAny_bind (wpAny_pure (wpAny_pure ⟨_, rfl, wpAny_pure h⟩))) hdrop)
    | exact wpAny_bind (wpAny_bind (m := Builtin.Tuple.tupleExact _) (wpAny_newObj_type (wpAny_pure (wpAny_pure ⟨_, rfl, wpAny_pure h⟩)) hdrop))
    | exact wpAny_bind (wpAny_bind (m := Builtin.Tuple.tupleExact _) (wpAny_newObj_type (wpAny_pure ⟨_, rfl, wpAny_pure h⟩) hdrop))

theorem cut_is (vs : List Value) (a b : Nat) : ((vs.drop (min a vs.length)).take (min b vs.length - min a vs.length)) = (vs.take b).drop a := by
  rw [List.drop_take]
  by_cases hab : a ≤ vs.length
  · rw [Nat.min_eq_left hab]
    by_cases hbb : b ≤ vs.length
    · rw [Nat.min_eq_left hbb]
    · rw [Nat.min_eq_right (by omega), List.take_of_length_le (by simp), List.take_of_length_le (by simp; omega)]
  · rw [Nat.min_eq_right (a := a) (by omega), List.drop_of_length_le (Nat.le_refl _), List.drop_of_length_le (l := vs) (i := a) (by omega)]; simp
theorem slcV_ok {value slice : Expr} {x y z : Value} {sl : Addr} {o v : V} {lo hi : Option V} (O : Ok c ρ σ s.heap) (ra : Rv c.T ρ s.heap x o) (rb : RvO c.T ρ s.heap y lo) (rc : RvO c.T ρ s.heap z hi)
    (hs : s.heap.IsSliceOf sl y z .none) (e : slcV o lo hi σ = some (v, σ')) :
    RunV c A ρ s (subscriptTail value slice x (.ref sl)) v σ' := by
  intro Q E hQ
  obtain ⟨ops, hops⟩ := subscripted_any slice x (.ref sl)
  unfold slcV at e
  split at e
  · rename_i k
    split at e
    · rename_i l hl
      split at e
      · rename_i hle
        split at e
        · rename_i a b ha hb
          cases e
          obtain ⟨p1, e1, n1⟩ := rb.part ha
          obtain ⟨p2, e2, n2⟩ := rc.part hb
          obtain ⟨t, vs, n, rfl, ht, g, r1, hL⟩ := O.st.isL ra hl
          have hle := okL_le hle
          refine tail_any (T := "list") ⟨_, g, rfl⟩ PySem.slot_list_getitem.lookup (wpAny_getItem_list_slice hL hs p1 p2 .none (by simp) ?_ (by rw [List.size_toArray, r1.length]; exact fits hle)) hops
          have key : slicePick vs.toArray (partOf lo) (partOf hi) none = ((vs.take b).drop a).toArray := by
            rw [slicePick_plain]
            have q1 : (partOf lo).elim 0 (clipAt vs.toArray.size) = min a vs.length := by
              cases hp : partOf lo with
              | none => rw [hp] at e1; simp at e1; subst e1; simp
              | some i =>
                rw [hp] at e1
                obtain ⟨m, rfl⟩ := Int.eq_ofNat_of_zero_le (n1 i hp)
                simp at e1; subst e1
                show clipAt vs.toArray.size (m : Int) = _
                rw [clipAt_nat]; simp
            have q2 : (partOf hi).elim vs.toArray.size (clipAt vs.toArray.size) = min b vs.length := by
              cases hp : partOf hi with
              | none => rw [hp] at e2; simp at e2; subst e2; simp [r1.length]
              | some i =>
                rw [hp] at e2
                obtain ⟨m, rfl⟩ := Int.eq_ofNat_of_zero_le (n2 i hp)
                simp at e2; subst e2
                show clipAt vs.toArray.size (m : Int) = _
                rw [clipAt_nat]; simp
            rw [q1, q2]
            exact congrArg _ (cut_is vs a b)
          rw [key]
          exact hQ _ _ _ s.toks (Grow.pushList ..) (O.pushList 0 ((r1.take b).drop a)) (ref_last O)
        · cases e
      · cases e
    · cases e
  · rename_i l
    split at e
    · rename_i hle
      have hle := okL_le hle
      split at e
      · rename_i a b ha hb
        split at e
        · rename_i hc
          cases e
          have h1 : 1 ≤ a := Nat.le_of_ble_eq_true (Bool.and_eq_true_iff.mp (Bool.and_eq_true_iff.mp hc).1).1
          have h2 : a ≤ b := Nat.le_of_ble_eq_true (Bool.and_eq_true_iff.mp (Bool.and_eq_true_iff.mp hc).1).2
          have h3 : b ≤ l.length := Nat.le_of_ble_eq_true (Bool.and_eq_true_iff.mp hc).2
          obtain ⟨t, vs, n, rfl, g, r1, hT⟩ := ra.isT
          have hvs : vs.length = l.length := r1.length
          -- the low part
          have hy : ∃ u, y = .int (a : Int) u := by
            cases rb with
            | no => cases ha; omega
            | yes r =>
              unfold natOf at ha
              split at ha
              · rename_i h; cases h
              · rename_i i _ h
                cases h
                split at ha
                · rename_i h0
                  cases ha
                  cases r with | int _ u => exact ⟨u, by congr 1; have := of_decide_eq_true h0; omega⟩
                · cases ha
              · cases ha
          obtain ⟨u, rfl⟩ := hy
          cases rc with
          | no =>
            cases hb
            refine tail_any (T := "tuple") ⟨_, g, rfl⟩ PyProof.Rows.slot_tuple_getitem.lookup (getItem_tuple_from hT hs h1 (by rw [List.size_toArray]; omega) ?_ (by rw [List.size_toArray]; exact fits (by omega))) hops
            rw [List.take_of_length_le (Nat.le_refl _)] at hQ
            refine hQ _ ρ _ s.toks (Grow.push ..) (O.push _) (Rv.tup' (Heap.get?_push_size _ rfl) ((r1.drop a).mono ⟨[], by simp⟩ fun a vals n e => Heap.get?_push_of_some _ e))
          | yes r =>
            have hz : ∃ u', z = .int (b : Int) u' := by
              unfold natOf at hb
              split at hb
              · rename_i h; cases h
              · rename_i i _ h
                cases h
                split at hb
                · rename_i h0
                  cases hb
                  cases r with | int _ u => exact ⟨u, by congr 1; have := of_decide_eq_true h0; omega⟩
                · cases hb
              · cases hb
            obtain ⟨u', rfl⟩ := hz
            refine tail_any (T := "tuple") ⟨_, g, rfl⟩ PyProof.Rows.slot_tuple_getitem.lookup (getItem_tuple_cut hT hs h1 h2 (by rw [List.size_toArray]; omega) ?_ (by rw [List.size_toArray]; exact fits (by omega))) hops
            exact hQ _ ρ _ s.toks (Grow.push ..) (O.push _) (Rv.tup' (Heap.get?_push_size _ rfl) (((r1.take b).drop a).mono ⟨[], by simp⟩ fun a vals n e => Heap.get?_push_of_some _ e))
        · cases e
      · cases e
    · cases e
  · cases e

theorem revV_ok {value slice : Expr} {x y : Value} {sl : Addr} {o st v : V} (O : Ok c ρ σ s.heap) (ra : Rv c.T ρ s.heap x o) (rb : Rv c.T ρ s.heap y st)
    (hs : s.heap.IsSliceOf sl .none .none y) (e : revV o st σ = some (v, σ')) :
    RunV c A ρ s (subscriptTail value slice x (.ref sl)) v σ' := by
  intro Q E hQ
  obtain ⟨ops, hops⟩ := subscripted_any slice x (.ref sl)
  unfold revV at e
  split at e
  · split at e
    · rename_i l hl
      split at e
      · rename_i hle
        cases e
        obtain ⟨t, vs, n, rfl, ht, g, r1, hL⟩ := O.st.isL ra hl
        cases rb with | int _ u =>
        have hle := okL_le hle
        refine tail_any (T := "list") ⟨_, g, rfl⟩ PySem.slot_list_getitem.lookup (wpAny_getItem_list_slice hL hs .none .none (.int (-1) u) (by decide) ?_ (by rw [List.size_toArray, r1.length]; exact fits hle)) hops
        rw [krv_pick]
        exact hQ _ _ _ s.toks (Grow.pushList ..) (O.pushList 0 r1.reverse) (ref_last O)
      · cases e
    · cases e
  · cases e

theorem truth_ok {x : Value} {v : V} {b : Bool} {Q : Bool → Shared → Prop} {E : Value → Shared → Prop} (r : Rv c.T ρ s.heap x v) (e : truth v = some b) (h : Q b s) : wpAny (model c.prog c.w) A (truthy x) Q E s := by
  unfold truth at e
  split at e
  · cases e; cases r; exact truthy_none h
  · cases e; cases r; exact wpAny_truthy_bool h
  · cases e; cases r
    refine PySem.P.truthy_int ?_
    rename_i i t
    by_cases h0 : i = 0
    · subst h0; simpa using h
    · have e1 : (i != 0) = true := bne_iff_ne.mpr h0
      rw [decide_eq_false h0] at h
      rw [e1]; exact h
  · cases e

noncomputable def biOf : Bi → Value
  | .len => .builtin "len" | .list => .type "list" | .tuple => .type "tuple" | .int => .type "int" | .max => .builtin "max" | .min => .builtin "min" | .range => .type "range"

theorem RvL.one {T : Tab} {h : Heap} {xs : List Value} {v : V} (r : RvL T ρ h xs [v]) : ∃ x, xs = [x] ∧ Rv T ρ h x v := by
  match xs, r with
  | [x], ⟨r, _⟩ => exact ⟨x, rfl, r⟩
theorem RvL.two {T : Tab} {h : Heap} {xs : List Value} {v w : V} (r : RvL T ρ h xs [v, w]) : ∃ x y, xs = [x, y] ∧ Rv T ρ h x v ∧ Rv T ρ h y w := by
  match xs, r with
  | [x, y], ⟨r, r', _⟩ => exact ⟨x, y, rfl, r, r'⟩
theorem RvL.nil' {T : Tab} {h : Heap} {xs : List Value} (r : RvL T ρ h xs []) : xs = [] := by
  match xs, r with
  | [], _ => rfl

theorem bcallV_ok {bi : Bi} {xs : List Value} {vs : List V} {v : V} (hh : safeB bi = false → A.handled = none) (O : Ok c ρ σ s.heap) (ra : RvL c.T ρ s.heap xs vs) (e : bcallV c.ob bi vs σ = some (v, σ')) :
    RunV c A ρ s (call (biOf bi) xs) v σ' := by
  intro Q E hQ
  unfold bcallV at e
  cases bi <;> dsimp only at e
  · replace e := arg1_inv e; obtain ⟨v0, rfl, e⟩ := e
    obtain ⟨x, rfl, r⟩ := ra.one
    split at e
    · rename_i l hl
      split at e
      · rename_i hle
        cases e
        have hle := okL_le hle
        unfold itemsOf at hl
        split at hl
        · cases hl
          obtain ⟨t, vs, n, rfl, g, r1, hT⟩ := r.isT
          refine PyProof.Rows.len_tuple hT (by rw [List.size_toArray, r1.length]; omega) ?_
          have := r1.length
          rw [List.size_toArray, this]
          exact Run.here O (.int _ _) hQ _
        · obtain ⟨t, vs, n, rfl, ht, g, r1, hL⟩ := O.st.isL r hl
          refine PyProof.Rows.len_list hL (by rw [List.size_toArray, r1.length]; omega) ?_
          have := r1.length
          rw [List.size_toArray, this]
          exact Run.here O (.int _ _) hQ _
        · obtain ⟨lo, hlo, rfl⟩ := Option.map_eq_some_iff.mp hl
          obtain ⟨vs, n, rfl, g, r1, hL⟩ := O.ob r hlo
          refine PyProof.Rows.len_list hL (by rw [List.size_toArray, r1.length]; omega) ?_
          have := r1.length
          rw [List.size_toArray, this]
          exact Run.here O (.int _ _) hQ _
        · cases hl
      · cases e
    · cases e
  · replace e := arg1_inv e; obtain ⟨v0, rfl, e⟩ := e
    obtain ⟨x, rfl, r⟩ := ra.one
    split at e
    · rename_i l hl
      unfold mkLst at e
      split at e
      · rename_i hle
        cases e
        have hle := okL_le hle
        have fin : ∀ (vs : List Value) (h' : Heap) (c' : Nat), RvL c.T ρ s.heap vs l → (∀ b o', s.heap.get? b = some o' → h'.get? b = some o') → h'.get? s.heap.objs.size = some { cls := .type "list", dict := none, data := .seq vs.toArray c', slots := #[] } → Q (.ref s.heap.objs.size) { s with heap := h' } := by
          intro vs h' c' r1 hk hg
          have g1 : Grow ρ s.heap (ρ ++ [s.heap.objs.size]) h' := .mk' (fun a ha => by
            rw [List.mem_singleton.mp ha]
            cases q : s.heap.get? s.heap.objs.size with
            | none => rfl
            | some o => exact absurd (Heap.lt_size q) (Nat.lt_irrefl _)) (fun b o e _ => hk b o e) fun b o e => ⟨o, hk b o e⟩
          have S0 := (O.pushList 0 r1).st
          refine hQ _ _ _ s.toks g1 (O.grow g1 (fun b o e => hk b o (O.base b o e)) ⟨S0.len, S0.nd, fun k a l' h1 h2 => ?_⟩) (ref_last O)
          have up : ∀ a vs m, s.heap.get? a = some { cls := .type "tuple", data := .seq vs m } → h'.get? a = some { cls := .type "tuple", data := .seq vs m } := fun a vs m e => hk _ _ e
          by_cases hkk : k < ρ.length
          · rw [List.getElem?_append_left hkk] at h1
            rw [List.getElem?_append_left (O.st.len ▸ hkk)] at h2
            obtain ⟨ws, m, gg, rr⟩ := O.st.lst k a l' h1 h2
            exact ⟨ws, m, hk _ _ gg, rr.mono ⟨_, rfl⟩ up⟩
          · have hk' : k = ρ.length := by
              have := (List.getElem?_eq_some_iff.mp h1).1
              rw [List.length_append, List.length_singleton] at this
              omega
            subst hk'
            rw [List.getElem?_append_right (Nat.le_refl _)] at h1
            rw [O.st.len, List.getElem?_append_right (Nat.le_refl _)] at h2
            simp at h1 h2
            subst h1 h2
            exact ⟨vs, c', hg, r1.mono ⟨_, rfl⟩ up⟩
        unfold itemsOf at hl
        split at hl
        · cases hl
          obtain ⟨t, vs, n, rfl, g, r1, hT⟩ := r.isT
          exact call_list_seq t (.inr rfl) g rfl rfl (fun h' c' hk hg => fin vs h' c' r1 hk hg) (by rw [List.size_toArray, r1.length]; exact fits hle)
        · obtain ⟨t, vs, n, rfl, ht, g, r1, hL⟩ := O.st.isL r hl
          exact call_list_seq t (.inl rfl) g rfl rfl (fun h' c' hk hg => fin vs h' c' r1 hk hg) (by rw [List.size_toArray, r1.length]; exact fits hle)
        · cases hl
        · cases hl
      · cases e
    · cases e
  · replace e := arg1_inv e; obtain ⟨v0, rfl, e⟩ := e
    split at e
    · obtain ⟨x, rfl, r⟩ := ra.one
      cases e
      obtain ⟨t, vs, n, rfl, g, r1, hT⟩ := r.isT
      exact call_tuple_same hT (Run.here O r hQ s.toks)
    · obtain ⟨x, rfl, r⟩ := ra.one
      split at e
      · rename_i l hl
        unfold mkTup at e
        split at e
        · rename_i hle
          cases e
          have hle := okL_le hle
          obtain ⟨t, vs, n, rfl, ht, g, r1, hL⟩ := O.st.isL r hl
          refine call_tuple_list hL (fun h' hk => ?_) (by rw [List.size_toArray, r1.length]; exact fits hle)
          refine hQ _ ρ _ s.toks ((Grow.ext hk).trans (Grow.push ..)) ((O.ext hk).push _) (Rv.tup' (Heap.get?_push_size _ rfl) (r1.mono ⟨[], by simp⟩ fun a vals n e => Heap.get?_push_of_some _ (hk _ _ e)))
        · cases e
      · cases e
    · cases e
  · replace e := arg1_inv e; obtain ⟨v0, rfl, e⟩ := e
    split at e
    · obtain ⟨x, rfl, r⟩ := ra.one
      cases e; cases r
      exact call_int_int (Run.here O (.int _ _) hQ s.toks)
    · obtain ⟨x, rfl, r⟩ := ra.one
      cases e; cases r
      exact call_int_bool (Run.here O (.int _ _) hQ _)
    · cases e
  · replace e := arg2_inv e; obtain ⟨a0, b0, rfl, e⟩ := e
    replace e := int2_inv e; obtain ⟨a1, b1, rfl, rfl, e⟩ := e
    obtain ⟨x, y, rfl, r, r'⟩ := ra.two
    cases e; cases r; cases r'
    refine max_two_ints (hh rfl) fun h' tk hk => hQ _ ρ _ tk (Grow.ext hk) (O.ext hk) ?_
    split <;> exact .int _ _
  · replace e := arg2_inv e; obtain ⟨a0, b0, rfl, e⟩ := e
    replace e := int2_inv e; obtain ⟨a1, b1, rfl, rfl, e⟩ := e
    obtain ⟨x, y, rfl, r, r'⟩ := ra.two
    cases e; cases r; cases r'
    refine min_two_ints (hh rfl) fun h' tk hk => hQ _ ρ _ tk (Grow.ext hk) (O.ext hk) ?_
    split <;> exact .int _ _
  · cases e

noncomputable def meOf : Me → String
  | .append => "list.append" | .extend => "list.extend" | .pop => "list.pop"

theorem pop_erase (p : List Value) (y : Value) : (p ++ [y]).toArray.eraseIdxIfInBounds ((p ++ [y]).toArray.size - 1) = p.toArray := by
  have hk : (p ++ [y]).toArray.size - 1 = p.length := by rw [List.size_toArray, List.length_append]; rfl
  rw [hk, kl_erase, List.append_nil]

theorem methV_ok {me : Me} {x : Value} {xs : List Value} {o : V} {vs : List V} {v : V} (O : Ok c ρ σ s.heap) (ro : Rv c.T ρ s.heap x o) (ra : RvL c.T ρ s.heap xs vs) (e : methV me o vs σ = some (v, σ')) :
    RunV c A ρ s (call (.builtin (meOf me)) (x :: xs)) v σ' := by
  intro Q E hQ
  unfold methV at e
  cases o with
  | ref k =>
    cases me <;> dsimp only at e
    · replace e := arg1_inv e; obtain ⟨v0, rfl, e⟩ := e
      obtain ⟨y, rfl, r⟩ := ra.one
      split at e
      · rename_i l hl
        split at e
        · rename_i hle
          cases e
          have hle := okL_le hle
          obtain ⟨t, vs, n, rfl, ht, g, r1, hL⟩ := O.st.isL ro hl
          refine append_at g (fun h' hs hg => ?_) (by rw [List.size_toArray, r1.length]; exact fits hle)
          have hg' : h'.get? t = some (W.listOf (vs ++ [y]).toArray (n + 1)) := by rw [hg]; simp [W.listOf]
          exact hQ _ ρ h' s.toks (Grow.set (List.mem_of_getElem? ht) hs hg') (O.set ht hs hg' (r1.append ⟨r, trivial⟩)) .none
        · cases e
      · cases e
    · replace e := arg1_inv e; obtain ⟨v0, rfl, e⟩ := e
      split at e
      · obtain ⟨y, rfl, r⟩ := ra.one
        split at e
        · rename_i l l2 hl hl2
          split at e
          · rename_i hle
            cases e
            have hle := okL_le hle
            rw [List.length_append] at hle
            obtain ⟨t, vs, n, rfl, ht, g, r1, hL⟩ := O.st.isL ro hl
            obtain ⟨t', vs', n', rfl, ht', g', r1', hL'⟩ := O.st.isL r hl2
            have hz : vs.length + vs'.length ≤ 1000000 := by rw [r1.length, r1'.length]; exact hle
            refine call_meets PySem.F.slot_list_extend ⟨_, g, rfl⟩ PySem.F.entry_list_extend (PySem.F.args_list_extend_2 _ _) (PySem.AutoSeq1.list_extend_list_list_0 t vs.toArray n t' vs'.toArray n' ?_ (by rw [List.size_toArray]; exact fits (by omega)) (by rw [List.size_toArray, List.size_toArray, sizeLine_eq]; omega)) ⟨g, g', ?_⟩
            · rw [List.size_toArray, List.size_toArray, Builtin.List.listTooLong]
              intro hq
              have := of_decide_eq_true (Bool.and_eq_true_iff.mp hq).2
              rw [sizeLine_eq] at this
              omega
            · have q := IsL.update g fun x => x ++ vs'.toArray
              have ee : vs.toArray ++ vs'.toArray = (vs ++ vs').toArray := by simp
              simp only [ee] at q
              exact hQ _ ρ _ s.toks (Grow.set (List.mem_of_getElem? ht) (Heap.SameBut.update ..) q) (O.set ht (Heap.SameBut.update ..) q (r1.append r1')) .none
          · cases e
        · cases e
      · cases e
    · split at e
      · have := ra.nil'; subst this
        split at e
        · rename_i l hl
          split at e
          · rename_i hle
            have hle := okL_le hle
            split at e
            · rename_i v' hv
              cases e
              obtain ⟨t, vs, n, rfl, ht, g, r1, hL⟩ := O.st.isL ro hl
              obtain ⟨p, hp⟩ := List.getLast?_eq_some_iff.mp hv
              subst hp
              have hlen := r1.length
              obtain ⟨q, y, rfl⟩ : ∃ q y, vs = q ++ [y] := by
                rcases List.eq_nil_or_concat vs with h | ⟨q, y, h⟩
                · subst h; simp at hlen
                · exact ⟨q, y, by simpa using h⟩
              have hqp : q.length = p.length := by simpa using hlen
              have ry : Rv c.T ρ s.heap y v := r1.get (i := q.length) (by simp) (by rw [hqp]; simp)
              have rq : RvL c.T ρ s.heap q p := by
                have := r1.take q.length
                rw [List.take_left, hqp, List.take_left] at this
                exact this
              refine call_meets PySem.F.slot_list_pop ⟨_, g, rfl⟩ PySem.F.entry_list_pop (PySem.F.args_list_pop_1 _) (PySem.MeetsSeq.list_pop_last t _ n y (by simp) (by rw [List.size_toArray, hlen]; exact fits hle)) ⟨g, ?_⟩
              have qq := IsL.update g fun xs => xs.eraseIdxIfInBounds ((q ++ [y]).toArray.size - 1)
              simp only [pop_erase] at qq
              rw [List.dropLast_concat] at hQ
              exact hQ _ ρ _ s.toks (Grow.set (List.mem_of_getElem? ht) (Heap.SameBut.update ..) qq) (O.set ht (Heap.SameBut.update ..) qq rq) (ry.mono ⟨[], by simp⟩ (fun a vals n e => (Grow.set (List.mem_of_getElem? ht) (Heap.SameBut.update ..) qq).tup O.st a vals n e))
            · cases e
          · cases e
        · cases e
      · cases e
  | _ => cases e

end
end Mine
end
section
open PySem PySem.W PyProof.Rows PySem.Calls PySem.SeqAt
set_option maxRecDepth 100000
set_option linter.unusedVariables false
set_option autoImplicit false
namespace Mine

noncomputable def meName : Me → Str
  | .append => Str.ofString "append" | .extend => Str.ofString "extend" | .pop => Str.ofString "pop"
noncomputable def dT (T : Tab) : Tgt → Expr
  | .one x p => .Name (T.nm x) p
  | .many xs k p => .Tuple (xs.map fun q => .Name (T.nm q.1) q.2) k p
noncomputable def dScope (T : Tab) (nms : List (Nat × NameKind)) : Scope := { kind := .function, names := nms.map fun q => (T.nm q.1, q.2), isGenerator := false, isCoroutine := false }

mutual
noncomputable def dE (T : Tab) : IE → Expr
  | .none k p => .Constant .none k p
  | .bool b k p => .Constant (.bool b) k p
  | .int i k p => .Constant (.int i) k p
  | .str c k p => .Constant (.str (T.nm c)) k p
  | .lv x p => .Name (T.nm x) p
  | .gi x p => .Name (T.nm x) p
  | .tup es k p => .Tuple (dEs T es) k p
  | .lst es p => .List (dEs T es) p
  | .idx e i p => .Subscript (dE T e) (dE T i) p
  | .slc e lo hi ps p => .Subscript (dE T e) (.Slice (dEo T lo) (dEo T hi) none ps) p
  | .rev e st ps p => .Subscript (dE T e) (.Slice none none (some (dE T st)) ps) p
  | .bin o a b p => .BinOp (dE T a) (opOf o) (dE T b) p
  | .cmp o a b p => .Compare (dE T a) [cmOf o] [dE T b] p
  | .and es p => .BoolOp .And (dEs T es) p
  | .or es p => .BoolOp .Or (dEs T es) p
  | .not e p => .UnaryOp .Not (dE T e) p
  | .neg e p => .UnaryOp .USub (dE T e) p
  | .ite t a b p => .IfExp (dE T t) (dE T a) (dE T b) p
  | .call f fp es p => .Call (.Name (T.nm f) fp) (dEs T es) [] p
  | .bcall _ x fp es p => .Call (.Name (T.nm x) fp) (dEs T es) [] p
  | .meth o m ap es p => .Call (.Attribute (dE T o) (meName m) ap) (dEs T es) [] p
  | .comp elt t it cond nms _ _ p => .ListComp (dE T elt) [⟨dT T t, dE T it, (match cond with | .no => [] | .yes c => [dE T c]), 0⟩] (dScope T nms) p
  | .hook _ x a p1 p2 => .Attribute (.Name (T.nm x) p1) (T.nm a) p2
  | .opq e => e
noncomputable def dEs (T : Tab) : IEs → List Expr
  | .nil => []
  | .cons e r => dE T e :: dEs T r
noncomputable def dEo (T : Tab) : IEo → Option Expr
  | .no => none
  | .yes e => some (dE T e)
end
noncomputable def dIt (T : Tab) : It → Expr
  | .over e => dE T e
  | .range x rp e p => .Call (.Name (T.nm x) rp) [dE T e] [] p
mutual
noncomputable def dS (T : Tab) : IS → Stmt
  | .asg x px e p => .Assign [.Name (T.nm x) px] (dE T e) p
  | .asgT xs k pt e p => .Assign [.Tuple (xs.map fun q => .Name (T.nm q.1) q.2) k pt] (dE T e) p
  | .asgI o i pt e p => .Assign [.Subscript (dE T o) (dE T i) pt] (dE T e) p
  | .expr e p => .Expr (dE T e) p
  | .exprC f fp es pc p => .Expr (.Call (.Name (T.nm f) fp) (dEs T es) [] pc) p
  | .ifS t a b p => .If (dE T t) (dSs T a) (dSs T b) p
  | .forS t it b p => .For (dT T t) (dIt T it) (dSs T b) [] p
  | .whileS t b p => .While (dE T t) (dSs T b) [] p
  | .ret e p => .Return (some (dE T e)) p
  | .raise c cp e sp pc p => .Raise (some (.Call (.Name (T.nm c) cp) (dE T e :: (match sp with | .no => [] | .yes x => [dE T x])) [] pc)) none p
  | .opq s => s
noncomputable def dSs (T : Tab) : ISs → List Stmt
  | .nil => []
  | .cons s r => dS T s :: dSs T r
end

/-- the heap grows, some private objects apart -/
structure Gb (S : List Addr) (ρ : List Addr) (h : Heap) (ρ' : List Addr) (h' : Heap) : Prop where
  more : ∃ m, ρ' = ρ ++ m ∧ ∀ a ∈ m, h.get? a = none
  keep : ∀ b o, h.get? b = some o → b ∉ ρ → b ∉ S → ∃ sl, h'.get? b = some { o with slots := sl } ∧ ((∀ es ep, o.data ≠ .dict es ep) → sl = o.slots)
  dom : ∀ b o, h.get? b = some o → b ∉ S → ∃ o', h'.get? b = some o'

section
variable {S : List Addr} {ρ₁ ρ ρ' : List Addr} {h₁ h h' : Heap}
theorem Gb.ofGrow (g : Grow ρ h ρ' h') : Gb S ρ h ρ' h' := ⟨g.more, fun b o e hb _ => g.keep b o e hb, fun b o e _ => g.dom b o e⟩
theorem Gb.ofExtBut {a : Addr} (hs : Heap.ExtBut a h h') (ha : a ∈ S) : Gb S ρ h ρ h' :=
  ⟨⟨[], by simp, by simp⟩, fun b o e _ hb => ⟨o.slots, hs b o (fun q => hb (q ▸ ha)) e, fun _ => rfl⟩, fun b o e hb => ⟨o, hs b o (fun q => hb (q ▸ ha)) e⟩⟩
theorem Grow.thenGb (x : Grow ρ₁ h₁ ρ h) (y : Gb S ρ h ρ' h') (hS : ∀ a ∈ S, h₁.get? a = none) : Grow ρ₁ h₁ ρ' h' := by
  obtain ⟨m, rfl, hm⟩ := x.more
  obtain ⟨m', rfl, hm'⟩ := y.more
  have notS : ∀ {b o}, h₁.get? b = some o → b ∉ S := fun {b o} e hb => by rw [hS b hb] at e; cases e
  refine ⟨⟨m ++ m', by rw [List.append_assoc], fun a ha => ?_⟩, fun b o e hb => ?_, fun b o e => ?_⟩
  · rcases List.mem_append.mp ha with ha | ha
    · exact hm a ha
    · cases q : h₁.get? a with
      | none => rfl
      | some o =>
        obtain ⟨o', e'⟩ := x.dom a o q
        rw [hm' a ha] at e'; cases e'
  · have hb' : b ∉ ρ₁ ++ m := fun hq => by
      rcases List.mem_append.mp hq with hq | hq
      · exact hb hq
      · rw [hm b hq] at e; cases e
    obtain ⟨sl, e1, q1⟩ := x.keep b o e hb
    obtain ⟨sl', e2, q2⟩ := y.keep b _ e1 hb' (notS e)
    exact ⟨sl', e2, fun hd => (q2 hd).trans (q1 hd)⟩
  · obtain ⟨o', e'⟩ := x.dom b o e
    exact y.dom b o' e' (notS e)
theorem Gb.exact (x : Gb S ρ h ρ' h') {b : Addr} {o : Obj} (e : h.get? b = some o) (hb : b ∉ ρ) (hS : b ∉ S) (hd : ∀ es ep, o.data ≠ .dict es ep) : h'.get? b = some o := by
  obtain ⟨sl, e', q⟩ := x.keep b o e hb hS
  rw [q hd] at e'
  exact e'
theorem Gb.mono {S' : List Addr} (x : Gb S ρ h ρ' h') (hS : ∀ a ∈ S, a ∈ S') : Gb S' ρ h ρ' h' :=
  ⟨x.more, fun b o e hb hn => x.keep b o e hb fun q => hn (hS b q), fun b o e hn => x.dom b o e fun q => hn (hS b q)⟩
theorem Gb.ns (x : Gb S ρ h ρ' h') {T : Tab} {σ : Store} (O : St T ρ σ h) {L : Addr} {m : Str → Option Value} (n : h.Ns L m) (hL : L ∉ S) : h'.Ns L m := by
  obtain ⟨o, es, ep, ho, hd, hp, hf⟩ := n
  obtain ⟨sl, e, _⟩ := x.keep L o ho (O.off ho fun its n q => by rw [q] at hd; cases hd) hL
  exact ⟨_, es, ep, e, hd, hp, hf⟩
theorem Gb.cell (x : Gb S ρ h ρ' h') {T : Tab} {σ : Store} (O : St T ρ σ h) {L : Addr} {v : Option Value} (n : h.IsCell L v) (hL : L ∉ S) : h'.IsCell L v := by
  obtain ⟨o, ho, hd⟩ := n
  exact ⟨o, x.exact ho (O.off ho fun its n q => by rw [q] at hd; cases hd) hL (fun es ep q => by rw [q] at hd; cases hd), hd⟩
/-- no private object is a tuple -/
noncomputable def NoTup (S : List Addr) (h : Heap) : Prop := ∀ a ∈ S, ∀ vals n, h.get? a ≠ some { cls := .type "tuple", data := .seq vals n }
theorem Gb.rv (x : Gb S ρ h ρ' h') {T : Tab} {σ : Store} (O : St T ρ σ h) (hS : NoTup S h) {v : Value} {a : V} (r : Rv T ρ h v a) : Rv T ρ' h' v a :=
  r.mono (let ⟨m, e, _⟩ := x.more; ⟨m, e⟩) fun b vals n e => x.exact e (O.tupOff e) (fun q => hS b q _ _ e) fun es ep q => by cases q
theorem Gb.rvl (x : Gb S ρ h ρ' h') {T : Tab} {σ : Store} (O : St T ρ σ h) (hS : NoTup S h) {v : List Value} {a : List V} (r : RvL T ρ h v a) : RvL T ρ' h' v a :=
  r.mono (let ⟨m, e, _⟩ := x.more; ⟨m, e⟩) fun b vals n e => x.exact e (O.tupOff e) (fun q => hS b q _ _ e) fun es ep q => by cases q
end

/-- the frames around stand in the heap -/
noncomputable def FrOk (c : Cx) (A : Around) (h : Heap) : Prop :=
  ∃ outer, A.frames = some outer ∧ ∀ e ∈ outer, e.scope.kind ≠ .module ∧ ∃ L m, e.frame = some L ∧ c.h₀.get? L = none ∧ h.Ns L m

structure En (c : Cx) (sc : Sc) (env : PySem.Env) (γ : Env1) (ρ : List Addr) (h : Heap) : Prop where
  kind : env.scope.kind = .function
  glo : env.globals = mainGlobals
  bui : env.builtins = builtinsNs
  loc : ∀ x ∈ sc.loc, x < c.T.n ∧ env.kindOf (c.T.nm x) = some .local
  cel : ∀ x ∈ sc.cel, x < c.T.n ∧ env.kindOf (c.T.nm x) = some .cell ∧ ∃ a, env.cells.lookup (c.T.nm x) = some a ∧ ∃ v, h.IsCell a v
  glb : ∀ x ∈ sc.glb, x < c.T.n ∧ env.kindOf (c.T.nm x) = some .globalImplicit
  apart : ∀ x ∈ sc.cel, ∀ y ∈ sc.cel, ∀ a, env.cells.lookup (c.T.nm x) = some a → env.cells.lookup (c.T.nm y) = some a → x = y
  ns : ∃ m, h.Ns env.locals m
  vars : ∀ x v, γ.lookup x = some v → ∃ val, Rv c.T ρ h val v ∧ ((x ∈ sc.loc ∧ ∃ m, h.Ns env.locals m ∧ m (c.T.nm x) = some val) ∨ (x ∈ sc.cel ∧ ∃ a, env.cells.lookup (c.T.nm x) = some a ∧ h.IsCell a (some val)))

section
variable {c : Cx} {A : Around} {ρ ρ' : List Addr} {σ σ' : Store} {s : Shared} {sc : Sc} {env : PySem.Env} {γ γ' : Env1}

theorem Ns.uniq {h : Heap} {L : Addr} {m m' : Str → Option Value} (x : h.Ns L m) (y : h.Ns L m') : m = m' := by
  obtain ⟨o, es, ep, ho, hd, _, hf⟩ := x
  obtain ⟨o', es', ep', ho', hd', _, hf'⟩ := y
  rw [ho] at ho'; cases ho'
  rw [hd] at hd'; cases hd'
  funext n
  rw [← hf n, ← hf' n]
theorem FrOk.grow {h h' : Heap} (F : FrOk c A h) (O : St c.T ρ σ h) (g : Grow ρ h ρ' h') : FrOk c A h' := by
  obtain ⟨outer, e, H⟩ := F
  refine ⟨outer, e, fun x hx => ?_⟩
  obtain ⟨h1, L, m, h2, h3, h4⟩ := H x hx
  exact ⟨h1, L, m, h2, h3, g.ns O h4⟩

theorem En.grow {h h' : Heap} (X : En c sc env γ ρ h) (O : St c.T ρ σ h) (g : Grow ρ h ρ' h') : En c sc env γ ρ' h' := by
  refine ⟨X.kind, X.glo, X.bui, X.loc, fun x hx => ?_, X.glb, X.apart, let ⟨m, hm⟩ := X.ns; ⟨m, g.ns O hm⟩, fun x v hx => ?_⟩
  · obtain ⟨h1, h2, a, h3, v, h4⟩ := X.cel x hx
    exact ⟨h1, h2, a, h3, v, g.cell O h4⟩
  · obtain ⟨val, r, h2⟩ := X.vars x v hx
    refine ⟨val, r.grow g O, ?_⟩
    rcases h2 with ⟨h3, m, h4, h5⟩ | ⟨h3, a, h4, h5⟩
    · exact .inl ⟨h3, m, g.ns O h4, h5⟩
    · exact .inr ⟨h3, a, h4, g.cell O h5⟩

theorem dbgN {x : Nat} (h : x < c.T.n) : (c.T.nm x == ("__debug__" : Str)) = false := c.T.dbg x h

theorem lv_ok {x : Nat} {p : Pos} {v : V} (O : Ok c ρ σ s.heap) (X : En c sc env γ ρ s.heap) (e : γ.lookup x = some v) : RunV c A ρ s (eval (.Name (c.T.nm x) p) env) v σ := by
  intro Q E hQ
  obtain ⟨val, r, h2⟩ := X.vars x v e
  rcases h2 with ⟨h3, m, h4, h5⟩ | ⟨h3, a, h4, h5⟩
  · obtain ⟨k1, k2⟩ := X.loc x h3
    exact wpAny_Name (wpAny_loadName_local X.kind k2 h4 h5 (Run.here O r hQ s.toks)) (dbgN k1)
  · obtain ⟨k1, k2, _⟩ := X.cel x h3
    exact wpAny_Name (wpAny_loadName_cell X.kind k2 h4 h5 (Run.here O r hQ s.toks)) (dbgN k1)

theorem Ok.ng {h : Heap} (O : Ok c ρ σ h) : h.Ns mainGlobals c.mg := c.hg.keeps O.base
theorem Ok.nb {h : Heap} (O : Ok c ρ σ h) : h.Ns builtinsNs c.mb := c.hb.keeps O.base

theorem glob_ok {x : Nat} {p : Pos} {v : Value} {Q : Value → Shared → Prop} {E : Value → Shared → Prop} (O : Ok c ρ σ s.heap) (X : En c sc env γ ρ s.heap) (hx : sc.glb.contains x = true) (e : c.mg (c.T.nm x) = some v) (h : Q v s) :
    wpAny (model c.prog c.w) A (eval (.Name (c.T.nm x) p) env) Q E s := by
  obtain ⟨k1, k2⟩ := X.glb x (List.contains_iff_mem.mp hx)
  exact Name_function_global X.kind k2 (loadGlobal_global (X.glo ▸ O.ng) e h) (dbgN k1)
theorem bui_ok {x : Nat} {p : Pos} {v : Value} {Q : Value → Shared → Prop} {E : Value → Shared → Prop} (O : Ok c ρ σ s.heap) (X : En c sc env γ ρ s.heap) (hx : sc.glb.contains x = true) (e : c.mg (c.T.nm x) = none) (e' : c.mb (c.T.nm x) = some v) (h : Q v s) :
    wpAny (model c.prog c.w) A (eval (.Name (c.T.nm x) p) env) Q E s := by
  obtain ⟨k1, k2⟩ := X.glb x (List.contains_iff_mem.mp hx)
  exact Name_function_global X.kind k2 (loadGlobal_builtin (X.glo ▸ O.ng) e (X.bui ▸ O.nb) e' h) (dbgN k1)

/-- what a run may bind is its own: nothing of it stood when the run began -/
structure Own (c : Cx) (sc sc' : Sc) (env : PySem.Env) (h₁ : Heap) : Prop where
  sub1 : ∀ x ∈ sc'.loc, x ∈ sc.loc
  sub2 : ∀ x ∈ sc'.cel, x ∈ sc.cel
  loc : h₁.get? env.locals = none
  cel : ∀ x ∈ sc'.cel, ∀ a, env.cells.lookup (c.T.nm x) = some a → h₁.get? a = none
/-- where the names that a run may bind are kept -/
noncomputable def frs (c : Cx) (sc : Sc) (env : PySem.Env) : List Addr := env.locals :: sc.cel.filterMap fun x => env.cells.lookup (c.T.nm x)
/-- what is no namespace and no cell stands -/
noncomputable def Kp (h h' : Heap) : Prop := ∀ b o, h.get? b = some o → (∀ es ep, o.data ≠ .dict es ep) → (∀ v, o.data ≠ .cell v) → h'.get? b = some o
theorem Kp.trans {h h' h'' : Heap} (x : Kp h h') (y : Kp h' h'') : Kp h h'' := fun b o e h1 h2 => y b o (x b o e h1 h2) h1 h2

theorem Gb.trans {S : List Addr} {ρ ρ₁ ρ₂ : List Addr} {h h₁ h₂ : Heap} (x : Gb S ρ h ρ₁ h₁) (y : Gb S ρ₁ h₁ ρ₂ h₂) (hS : ∀ a ∈ S, ∃ o, h₁.get? a = some o) : Gb S ρ h ρ₂ h₂ := by
  obtain ⟨m, rfl, hm⟩ := x.more
  obtain ⟨m', rfl, hm'⟩ := y.more
  refine ⟨⟨m ++ m', by rw [List.append_assoc], fun a ha => ?_⟩, fun b o e hb hbS => ?_, fun b o e hbS => ?_⟩
  · rcases List.mem_append.mp ha with ha | ha
    · exact hm a ha
    · cases q : h.get? a with
      | none => rfl
      | some o =>
        have : ∃ o', h₁.get? a = some o' := by
          by_cases hs : a ∈ S
          · exact hS a hs
          · exact x.dom a o q hs
        obtain ⟨o', e'⟩ := this
        rw [hm' a ha] at e'; cases e'
  · have hb' : b ∉ ρ ++ m := fun hq => by
      rcases List.mem_append.mp hq with hq | hq
      · exact hb hq
      · rw [hm b hq] at e; cases e
    obtain ⟨sl, e1, q1⟩ := x.keep b o e hb hbS
    obtain ⟨sl', e2, q2⟩ := y.keep b _ e1 hb' hbS
    exact ⟨sl', e2, fun hd => (q2 hd).trans (q1 hd)⟩
  · obtain ⟨o', e'⟩ := x.dom b o e hbS
    exact y.dom b o' e' hbS
theorem Gb.fresh {S : List Addr} {ρ ρ₁ : List Addr} {h h₁ : Heap} (x : Gb S ρ h ρ₁ h₁) (hS : ∀ a ∈ S, ∃ o, h₁.get? a = some o) {a : Addr} (ha : h₁.get? a = none) : h.get? a = none := by
  cases q : h.get? a with
  | none => rfl
  | some o =>
    have : ∃ o', h₁.get? a = some o' := by
      by_cases hs : a ∈ S
      · exact hS a hs
      · exact x.dom a o q hs
    obtain ⟨o', e'⟩ := this
    rw [ha] at e'; cases e'
theorem En.inFrs {sc' : Sc} {h : Heap} (X : En c sc env γ ρ h) (hs : ∀ x ∈ sc'.cel, x ∈ sc.cel) : ∀ a ∈ frs c sc' env, ∃ o, h.get? a = some o := fun a ha => by
  rcases List.mem_cons.mp ha with ha | ha
  · obtain ⟨m, o, es, ep, ho, _⟩ := X.ns
    exact ⟨o, ha ▸ ho⟩
  · obtain ⟨x, hx, e⟩ := List.mem_filterMap.mp ha
    obtain ⟨_, _, b, hb, v, o, ho, _⟩ := X.cel x (hs x hx)
    rw [e] at hb; cases hb
    exact ⟨o, ho⟩
theorem En.noTupFrs {sc' : Sc} {h : Heap} (X : En c sc env γ ρ h) (hs : ∀ x ∈ sc'.cel, x ∈ sc.cel) : NoTup (frs c sc' env) h := fun a ha => by
  rcases List.mem_cons.mp ha with ha | ha
  · obtain ⟨m, hm⟩ := X.ns
    exact ha ▸ Ns.noTup hm
  · obtain ⟨x, hx, e⟩ := List.mem_filterMap.mp ha
    obtain ⟨_, _, b, hb, v, hc⟩ := X.cel x (hs x hx)
    rw [e] at hb; cases hb
    exact Cell.noTup hc
theorem beqN {x y : Nat} : Nat.beq x y = true ↔ x = y := by
  constructor
  · exact Nat.eq_of_beq_eq_true
  · rintro rfl; exact Nat.beq_refl x
theorem lookup_filter {x y : Nat} (h : x ≠ y) : ∀ γ : Env1, (γ.filter fun q => !(Nat.beq q.1 x)).lookup y = γ.lookup y
  | [] => rfl
  | (k, v) :: r => by
    rw [List.filter_cons]
    by_cases hk : k = x
    · subst hk
      have : (!(Nat.beq k k)) = false := by rw [Nat.beq_refl]; rfl
      rw [this, if_neg (by decide), List.lookup_cons]
      have hb : (y == k) = false := beq_eq_false_iff_ne.mpr (Ne.symm h)
      rw [hb]
      exact lookup_filter h r
    · have : (!(Nat.beq k x)) = true := by
        cases hb : Nat.beq k x with
        | false => rfl
        | true => exact absurd (beqN.mp hb) hk
      rw [this, if_pos rfl, List.lookup_cons, List.lookup_cons]
      cases hb : y == k with
      | true => rfl
      | false => exact lookup_filter h r

/-- a name of the frame is bound anew -/
theorem store_ok {sc' : Sc} {ρ₁ : List Addr} {h₁ : Heap} {x : Nat} {val : Value} {v : V} (O : Ok c ρ σ s.heap) (X : En c sc env γ ρ s.heap) (G : Grow ρ₁ h₁ ρ s.heap) (hb : ∀ b o, c.h₀.get? b = some o → h₁.get? b = some o)
    (W : Own c sc sc' env h₁) (r : Rv c.T ρ s.heap val v) (e : store sc' x v γ = some γ') {Q : Unit → Shared → Prop} {E : Value → Shared → Prop}
    (hQ : ∀ h' tk, Ok c ρ σ h' → En c sc env γ' ρ h' → Grow ρ₁ h₁ ρ h' → Kp s.heap h' → Gb (frs c sc' env) ρ s.heap ρ h' → Q () { s with heap := h', toks := tk }) :
    wpAny (model c.prog c.w) A (storeName env (c.T.nm x) val) Q E s := by
  have base0 : ∀ {a : Addr}, h₁.get? a = none → c.h₀.get? a = none := fun {a} h => by
    cases q : c.h₀.get? a with
    | none => rfl
    | some o => rw [hb a o q] at h; cases h
  have grow' : ∀ {a : Addr} {h' : Heap}, Heap.SameBut a s.heap h' → h₁.get? a = none → Grow ρ₁ h₁ ρ h' := fun {a h'} hs ha =>
    ⟨G.more, fun b o e hbn => by
      obtain ⟨sl, e', q⟩ := G.keep b o e hbn
      exact ⟨sl, (hs.2 b fun z => by rw [z, ha] at e; cases e).trans e', q⟩, fun b o e => by
      obtain ⟨o', e'⟩ := G.dom b o e
      exact ⟨o', (hs.2 b fun z => by rw [z, ha] at e; cases e).trans e'⟩⟩
  unfold store at e
  split at e
  · rename_i hx
    cases e
    have up : ∀ {a : Addr} {h' : Heap}, Heap.SameBut a s.heap h' → (∀ vals n, s.heap.get? a ≠ some { cls := .type "tuple", data := .seq vals n }) → ∀ {y w}, Rv c.T ρ s.heap y w → Rv c.T ρ h' y w := fun {a h'} hs ht {y w} r =>
      r.mono ⟨[], by simp⟩ fun b vals n e => (hs.2 b fun z => ht _ _ (z ▸ e)).trans e
    rcases Bool.or_eq_true_iff.mp hx with hl | hl
    · have hl := W.sub1 x (List.contains_iff_mem.mp hl)
      obtain ⟨k1, k2⟩ := X.loc x hl
      have W := W.loc
      obtain ⟨m, hm⟩ := X.ns
      refine wpAny_storeName_local k2 hm (fun h' hn hs => ?_) (by rw [X.kind]; rfl)
      have hL := Ns.offL O.st hm
      have hT := Ns.noTup hm
      refine hQ h' _ (O.but hs hL hT (base0 W)) ?_ (grow' hs W) (fun b o e h1 _ => (hs.2 b fun z => by
        subst z
        obtain ⟨o', es, ep, ho', hd', _⟩ := hm
        rw [e] at ho'; cases ho'
        exact h1 _ _ hd').trans e) (Gb.ofExtBut hs.extBut (.head _))
      have cellNe : ∀ {a v}, s.heap.IsCell a v → a ≠ env.locals := fun {a v} hc z => by
        subst z
        obtain ⟨o, ho, hd⟩ := hc
        obtain ⟨o', es, ep, ho', hd', _⟩ := hm
        rw [ho] at ho'; cases ho'; rw [hd] at hd'; cases hd'
      refine ⟨X.kind, X.glo, X.bui, X.loc, fun y hy => ?_, X.glb, X.apart, ⟨_, hn⟩, fun y w hy => ?_⟩
      · obtain ⟨h1, h2, a, h3, v, h4⟩ := X.cel y hy
        exact ⟨h1, h2, a, h3, v, h4.sameBut hs (cellNe h4)⟩
      · rw [List.lookup_cons] at hy
        cases hb : y == x with
        | true =>
          rw [hb] at hy
          cases hy
          have := beq_iff_eq.mp hb
          subst this
          exact ⟨val, up hs hT r, .inl ⟨hl, _, hn, by simp⟩⟩
        | false =>
          rw [hb] at hy
          have hne : x ≠ y := fun z => by subst z; simp at hb
          rw [lookup_filter hne] at hy
          obtain ⟨val', r', h2⟩ := X.vars y w hy
          refine ⟨val', up hs hT r', ?_⟩
          rcases h2 with ⟨h3, m', h4, h5⟩ | ⟨h3, a, h4, h5⟩
          · refine .inl ⟨h3, _, hn, ?_⟩
            have hnm : c.T.nm y ≠ c.T.nm x := fun z => hne (c.T.inj _ _ k1 (X.loc y h3).1 z.symm)
            rw [if_neg hnm]
            have : m = m' := Ns.uniq hm h4
            rw [this]; exact h5
          · exact .inr ⟨h3, a, h4, h5.sameBut hs (cellNe h5)⟩
    · have hl' := List.contains_iff_mem.mp hl
      have hl := W.sub2 x hl'
      obtain ⟨k1, k2, a, k3, v₀, k4⟩ := X.cel x hl
      have hW := W.cel x hl' a k3
      refine wpAny_storeName_cell X.kind k2 k3 k4 fun h' hc' hs => ?_
      have hL := Cell.offL O.st k4
      have hT := Cell.noTup k4
      obtain ⟨m, hm⟩ := X.ns
      have hLa : env.locals ≠ a := fun z => by
        subst z
        obtain ⟨o, ho, hd⟩ := k4
        obtain ⟨o', es, ep, ho', hd', _⟩ := hm
        rw [ho] at ho'; cases ho'; rw [hd] at hd'; cases hd'
      refine hQ h' s.toks (O.but hs hL hT (base0 hW)) ?_ (grow' hs hW) (fun b o e _ h2 => (hs.2 b fun z => by
        subst z
        obtain ⟨o', ho', hd'⟩ := k4
        rw [e] at ho'; cases ho'
        exact h2 _ hd').trans e) (Gb.ofExtBut hs.extBut (.tail _ (List.mem_filterMap.mpr ⟨x, hl', k3⟩)))
      refine ⟨X.kind, X.glo, X.bui, X.loc, fun y hy => ?_, X.glb, X.apart, ⟨m, hm.sameBut hs hLa⟩, fun y w hy => ?_⟩
      · obtain ⟨h1, h2, b, h3, v, h4⟩ := X.cel y hy
        by_cases hab : b = a
        · subst hab; exact ⟨h1, h2, b, h3, _, hc'⟩
        · exact ⟨h1, h2, b, h3, v, h4.sameBut hs hab⟩
      · rw [List.lookup_cons] at hy
        cases hb : y == x with
        | true =>
          rw [hb] at hy
          cases hy
          have := beq_iff_eq.mp hb
          subst this
          exact ⟨val, up hs hT r, .inr ⟨hl, a, k3, hc'⟩⟩
        | false =>
          rw [hb] at hy
          have hne : x ≠ y := fun z => by subst z; simp at hb
          rw [lookup_filter hne] at hy
          obtain ⟨val', r', h2⟩ := X.vars y w hy
          refine ⟨val', up hs hT r', ?_⟩
          rcases h2 with ⟨h3, m', h4, h5⟩ | ⟨h3, b, h4, h5⟩
          · exact .inl ⟨h3, m', h4.sameBut hs hLa, h5⟩
          · refine .inr ⟨h3, b, h4, h5.sameBut hs fun z => ?_⟩
            subst z
            exact hne (X.apart x hl y h3 _ k3 h4)
  · cases e
end
end Mine
end
section
open PySem PySem.W PyProof.Rows PySem.Calls PySem.SeqAt
set_option maxRecDepth 100000
set_option linter.unusedVariables false
set_option autoImplicit false
namespace Mine

/-- an exception of the program's own class, with what it bears; tb: its traceback's state -/
inductive IsExc (c : Cx) (hb : Heap) (ρ : List Addr) (h : Heap) (e : Value) (m sp : V) (fl : Option Value) : Prop
  | mk (a : Addr) (o : Obj) (vs : Array Value) (d : Addr) (mm : Str → Option Value) (vm vs' : Value) (h1 : e = .ref a) (h2 : h.get? a = some o) (h3 : o.cls = c.xcls) (h4 : o.dict = some d) (h5 : o.data = .fields vs) (h6 : hb.get? a = none ∧ vs[2]? = some .none ∧ hb.get? d = none)
    (h7 : h.Ns d mm) (h8 : mm (Str.ofString "message") = some vm) (h9 : mm (Str.ofString "spot") = some vs') (h10 : Rv c.T ρ h vm m) (h11 : Rv c.T ρ h vs' sp)
    (h12 : match fl with
      | none => vs[1]? = some .none
      | some f => ∃ tb ot ts, vs[1]? = some (.ref tb) ∧ tb ≠ a ∧ h.get? tb = some ot ∧ ot.data = .fields ts ∧ ts[3]? = some f ∧ hb.get? tb = none)

theorem push_fresh {ρ ρ' : List Addr} {h h' : Heap} (g : Grow ρ h ρ' h') {a : Addr} (ha : h'.get? a = none) : h.get? a = none := by
  cases q : h.get? a with
  | none => rfl
  | some o =>
    obtain ⟨o', e⟩ := g.dom a o q
    rw [ha] at e; cases e
theorem IsExc.rebase {c : Cx} {hb hb' : Heap} {ρ : List Addr} {h : Heap} {e : Value} {m sp : V} {fl : Option Value} (x : IsExc c hb ρ h e m sp fl) (H : ∀ a, hb.get? a = none → hb'.get? a = none) : IsExc c hb' ρ h e m sp fl := by
  obtain ⟨a, o, vs, d, mm, vm, vs', h1, h2, h3, h4, h5, h6, h7, h8, h9, h10, h11, h12⟩ := x
  refine ⟨a, o, vs, d, mm, vm, vs', h1, h2, h3, h4, h5, ⟨H a h6.1, h6.2.1, H d h6.2.2⟩, h7, h8, h9, h10, h11, ?_⟩
  cases fl with
  | none => exact h12
  | some f =>
    obtain ⟨tb, ot, ts, k1, k2, k3, k4, k5, k6⟩ := h12
    exact ⟨tb, ot, ts, k1, k2, k3, k4, k5, H tb k6⟩

noncomputable def RunR (c : Cx) (A : Around) (ρ : List Addr) (s : Shared) (t : Sem Value) (r : Res) (σ' : Store) : Prop :=
  match r with
  | .ret v => RunV c A ρ s t v σ'
  | .exc m sp => ∀ (Q : Value → Shared → Prop) (E : Value → Shared → Prop), (∀ e ρ' h' tk, Grow ρ s.heap ρ' h' → Ok c ρ' σ' h' → IsExc c s.heap ρ' h' e m sp (some .none) → E e { s with heap := h', toks := tk }) → wpAny (model c.prog c.w) A t Q E s

inductive CallOk (c : Cx) (n : Nat) (f : Nat) (args : List V) (σ : Store) (r : Res) (σ' : Store) : Prop
  | mk (a : Addr) (o : Obj) (fd : FuncData) (h1 : c.mg (c.T.nm f) = some (.ref a)) (h2 : c.h₀.get? a = some o) (h3 : o.data = .func fd)
    (h4 : ∀ (A : Around) (s : Shared) (ρ : List Addr) (xs : List Value), Room c true A n → FrOk c A s.heap → Ok c ρ σ s.heap → RvL c.T ρ s.heap xs args → RunR c A ρ s (call (.ref a) xs) r σ')

/-- the class of the program's exceptions: raised with a message, and with a spot -/
noncomputable def RaiseOk (c : Cx) (n : Nat) (cc : Nat) : Prop :=
  ∃ Ca : Addr, c.mg (c.T.nm cc) = some (.ref Ca) ∧ ∀ (A : Around) (s : Shared) (ρ : List Addr) (σ : Store) (sc : Sc) (env : PySem.Env) (γ : Env1) (σ₁ : Store) (vs : List V) (m sp : V) (cp pc p : Pos) (args : List Expr), Room c true A n → FrOk c A s.heap → Ok c ρ σ s.heap → En c sc env γ ρ s.heap → sc.glb.contains cc = true →
    (vs = [m] ∧ sp = .int 0 ∨ vs = [m, sp]) → (backTo pc (starEach args env)).any (·.1) = false →
    (∀ (Q : Args → Shared → Prop) (E : Value → Shared → Prop), (∀ xs ρ' h' tk, Grow ρ s.heap ρ' h' → Ok c ρ' σ₁ h' → RvL c.T ρ' h' xs vs → Q ⟨xs, []⟩ { s with heap := h', toks := tk }) → wpAny (model c.prog c.w) A (evalArgs (.ref Ca) true (backTo pc (starEach args env)) []) Q E s) →
    ∀ (Q : Flow → Shared → Prop) (E : Value → Shared → Prop), (∀ e ρ' h' tk, Grow ρ s.heap ρ' h' → Ok c ρ' σ₁ h' → IsExc c s.heap ρ' h' e m sp none → E e { s with heap := h', toks := tk }) →
      wpAny (model c.prog c.w) A (exec (.Raise (some (.Call (.Name (c.T.nm cc) cp) args [] pc)) none p) env) Q E s

structure Snd (c : Cx) (n : Nat) (C : Cfg) : Prop where
  num : C.n = c.T.n
  ob : C.ob = c.ob
  psi : ∀ f args σ r σ', C.Ψ f args σ = some (r, σ') → C.mm = true ∧ CallOk c n f args σ r σ'
  inS : ∀ i j r, C.inS i j = some r → i < c.T.n → j < c.T.n → (!(Builtin.Str.occurrences (c.T.nm j) (c.T.nm i) 0 (c.T.nm j).length 1).isEmpty) = r
  gi : ∀ x i, C.gi x = some i → ∃ t, c.mg (c.T.nm x) = some (.int i t)
  bi : ∀ b x, C.bi b x = true → c.mg (c.T.nm x) = none ∧ c.mb (c.T.nm x) = some (biOf b)
  rz : ∀ cc, C.rz cc = true → RaiseOk c n cc
  hook : ∀ y a v, C.H y a = some v → ∀ (A : Around) (ρ : List Addr) (σ : Store) (s : Shared), Ok c ρ σ s.heap → RunV c A ρ s (getAttr (.ref a) (c.T.nm y) true) v σ

section
variable {c : Cx} {n : Nat} {C : Cfg}

/-- what is shown of an expression -/
noncomputable def GE (c : Cx) (n : Nat) (C : Cfg) (e : IE) : Prop :=
  ∀ (sc : Sc) (env : PySem.Env) (γ : Env1) (σ : Store) (v : V) (σ' : Store) (A : Around) (s : Shared) (ρ : List Addr), evE C sc e γ σ = some (v, σ') →
    Room c C.mm A n → FrOk c A s.heap → Ok c ρ σ s.heap → En c sc env γ ρ s.heap →
    RunV c A ρ s (eval (dE c.T e) env) v σ' ∧
    ∀ (b : Bool), truth v = some b → ∀ (Q : Bool → Shared → Prop) (E : Value → Shared → Prop), (∀ ρ' h' tk, Grow ρ s.heap ρ' h' → Ok c ρ' σ' h' → Q b { s with heap := h', toks := tk }) →
      wpAny (model c.prog c.w) A (isTrue (dE c.T e) env (eval (dE c.T e) env)) Q E s
noncomputable def GEs (c : Cx) (n : Nat) (C : Cfg) (es : IEs) : Prop :=
  ∀ (sc : Sc) (env : PySem.Env) (γ : Env1) (σ : Store) (vs : List V) (σ' : Store) (A : Around) (s : Shared) (ρ : List Addr) (pos : Pos), evEs C sc es γ σ = some (vs, σ') →
    Room c C.mm A n → FrOk c A s.heap → Ok c ρ σ s.heap → En c sc env γ ρ s.heap →
    Run c A ρ s (spliced (backTo pos (starEach (dEs c.T es) env))) σ' (fun xs ρ' h' => RvL c.T ρ' h' xs vs)
noncomputable def GO (c : Cx) (n : Nat) (C : Cfg) (o : IEo) : Prop :=
  ∀ (sc : Sc) (env : PySem.Env) (γ : Env1) (σ : Store) (v : Option V) (σ' : Store) (A : Around) (s : Shared) (ρ : List Addr), evO C sc o γ σ = some (v, σ') →
    Room c C.mm A n → FrOk c A s.heap → Ok c ρ σ s.heap → En c sc env γ ρ s.heap →
    Run c A ρ s (evalPart (dEo c.T o) env) σ' (fun x ρ' h' => RvO c.T ρ' h' x v)
noncomputable def GAnd (c : Cx) (n : Nat) (C : Cfg) (es : IEs) : Prop :=
  ∀ (sc : Sc) (env : PySem.Env) (γ : Env1) (σ : Store) (v : V) (σ' : Store) (A : Around) (s : Shared) (ρ : List Addr) (pos : Pos), evAnd C sc es γ σ = some (v, σ') →
    Room c C.mm A n → FrOk c A s.heap → Ok c ρ σ s.heap → En c sc env γ ρ s.heap →
    RunV c A ρ s (eval (.BoolOp .And (dEs c.T es) pos) env) v σ' ∧
    ∀ (b : Bool), truth v = some b → ∀ (Q : Bool → Shared → Prop) (E : Value → Shared → Prop) (w : Sem Value), (∀ ρ' h' tk, Grow ρ s.heap ρ' h' → Ok c ρ' σ' h' → Q b { s with heap := h', toks := tk }) →
      wpAny (model c.prog c.w) A (isTrue (.BoolOp .And (dEs c.T es) pos) env w) Q E s
noncomputable def GOr (c : Cx) (n : Nat) (C : Cfg) (es : IEs) : Prop :=
  ∀ (sc : Sc) (env : PySem.Env) (γ : Env1) (σ : Store) (v : V) (σ' : Store) (A : Around) (s : Shared) (ρ : List Addr) (pos : Pos), evOr C sc es γ σ = some (v, σ') →
    Room c C.mm A n → FrOk c A s.heap → Ok c ρ σ s.heap → En c sc env γ ρ s.heap →
    RunV c A ρ s (eval (.BoolOp .Or (dEs c.T es) pos) env) v σ' ∧
    ∀ (b : Bool), truth v = some b → ∀ (Q : Bool → Shared → Prop) (E : Value → Shared → Prop) (w : Sem Value), (∀ ρ' h' tk, Grow ρ s.heap ρ' h' → Ok c ρ' σ' h' → Q b { s with heap := h', toks := tk }) →
      wpAny (model c.prog c.w) A (isTrue (.BoolOp .Or (dEs c.T es) pos) env w) Q E s

/-- one step after another -/
theorem Run.then {α β : Type} {A : Around} {ρ : List Addr} {s : Shared} {t : Sem α} {σ₁ σ₂ : Store} {P : α → List Addr → Heap → Prop} {P₂ : β → List Addr → Heap → Prop} (h : Run c A ρ s t σ₁ P)
    {f : α → Shared → (β → Shared → Prop) → (Value → Shared → Prop) → Prop} {Q : β → Shared → Prop} {E : Value → Shared → Prop}
    (k : ∀ a ρ₁ h₁ tk, Grow ρ s.heap ρ₁ h₁ → Ok c ρ₁ σ₁ h₁ → P a ρ₁ h₁ → f a { s with heap := h₁, toks := tk } Q E) : wpAny (model c.prog c.w) A t (fun a s' => f a s' Q E) E s :=
  h _ _ k

theorem plain_true {A : Around} {ρ : List Addr} {s : Shared} {e : Expr} {env : PySem.Env} {σ' : Store} {v : V} {b : Bool} (h : RunV c A ρ s (eval e env) v σ') (hb : truth v = some b) {Q : Bool → Shared → Prop} {E : Value → Shared → Prop}
    (hQ : ∀ ρ' h' tk, Grow ρ s.heap ρ' h' → Ok c ρ' σ' h' → Q b { s with heap := h', toks := tk })
    (he : isTrue e env (eval e env) = (do let v ← eval e env; standAt e.pos; holding [v] (truthy v))) : wpAny (model c.prog c.w) A (isTrue e env (eval e env)) Q E s :=
  isTrue_plain (h _ _ fun x ρ' h' tk g o r => truth_ok r hb (hQ ρ' h' tk g o)) he

theorem star_cons {sc : Sc} {e : IE} {γ : Env1} {σ : Store} {r : V × Store} (h : evE C sc e γ σ = some r) (T : Tab) (l : List Expr) (env : PySem.Env) : starEach (dE T e :: l) env = (false, eval (dE T e) env) :: starEach l env := by
  cases e <;> first | rfl | (cases h; done) | (rename_i cond _ _ _ _; cases cond <;> rfl)

theorem behind_ok {sc : Sc} {e : IE} {γ : Env1} {σ : Store} {r : V × Store} (h : evE C sc e γ σ = some r) (T : Tab) (o : CmpOp) : behindInMarks o (dE T e) = false := by
  cases e <;> first | rfl | (cases h; done) | (rename_i cond _ _ _ _; cases cond <;> rfl)
theorem folded_ok {sc : Sc} {e : IE} {γ : Env1} {σ : Store} {r : V × Store} (h : evE C sc e γ σ = some r) (T : Tab) (env : PySem.Env) (x : Value) : foldedSetIterable (dE T e) env x = pure x := by
  cases e <;> first | rfl | (cases h; done) | (rename_i cond _ _ _ _; cases cond <;> rfl)
theorem attr_ok {sc : Sc} {e : IE} {γ : Env1} {σ : Store} {r : V × Store} (h : evE C sc e γ σ = some r) (he : ∃ x p, e = .lv x p) (T : Tab) (a : Str) (env : PySem.Env) (w : Sem Value) : attributeBase (dE T e) a env w = w := by
  obtain ⟨x, p, rfl⟩ := he
  rfl

theorem evEs_stat {sc : Sc} {γ : Env1} (T : Tab) (env : PySem.Env) (pos : Pos) : ∀ {es : IEs} {σ σ' : Store} {vs : List V}, evEs C sc es γ σ = some (vs, σ') →
    (backTo pos (starEach (dEs T es) env)).any (·.1) = false ∧ (backTo pos (starEach (dEs T es) env)).all (fun x => !x.1) = true ∧ (dEs T es).length = vs.length
  | .nil, σ, σ', vs, e => by rw [evEs_nil] at e; cases e; exact ⟨rfl, rfl, rfl⟩
  | .cons a r, σ, σ', vs, e => by
    rw [evEs_cons] at e
    obtain ⟨ra, ha, e⟩ := Option.bind_eq_some_iff.mp e
    obtain ⟨rb, hb, e⟩ := Option.map_eq_some_iff.mp e
    cases e
    have hs : backTo pos (starEach (dEs T (.cons a r)) env) = (false, eval (dE T a) env) :: backTo pos (starEach (dEs T r) env) := by
      show backTo pos (starEach (dE T a :: dEs T r) env) = _
      rw [star_cons ha T]
      rfl
    obtain ⟨h1, h2, h3⟩ := evEs_stat T env pos hb
    rw [hs]
    refine ⟨by simpa using h1, by simpa using h2, ?_⟩
    show (dE T a :: dEs T r).length = _
    simpa using h3
end
end Mine
end
section
open PySem PySem.W PyProof.Rows PySem.Calls PySem.SeqAt
set_option maxRecDepth 100000
set_option linter.unusedVariables false
set_option autoImplicit false
namespace Mine
section
variable {c : Cx} {n : Nat} {C : Cfg}

theorem ge_plain {e : IE} (he : ∀ (T : Tab) (env : PySem.Env), isTrue (dE T e) env (eval (dE T e) env) = (do let v ← eval (dE T e) env; standAt (dE T e).pos; holding [v] (truthy v)))
    (h : ∀ (sc : Sc) (env : PySem.Env) (γ : Env1) (σ : Store) (v : V) (σ' : Store) (A : Around) (s : Shared) (ρ : List Addr), evE C sc e γ σ = some (v, σ') →
      Room c C.mm A n → FrOk c A s.heap → Ok c ρ σ s.heap → En c sc env γ ρ s.heap → RunV c A ρ s (eval (dE c.T e) env) v σ') : GE c n C e :=
  fun sc env γ σ v σ' A s ρ e R F O X => ⟨h sc env γ σ v σ' A s ρ e R F O X, fun b hb Q E hQ => plain_true (h sc env γ σ v σ' A s ρ e R F O X) hb hQ (he _ _)⟩

theorem ge_none (k : Nat) (p : Pos) : GE c n C (.none k p) :=
  ge_plain (fun _ _ => rfl) fun sc env γ σ v σ' A s ρ e R F O X => by
    cases e
    intro Q E hQ
    exact wpAny_Constant_none (Run.here O .none hQ s.toks)
theorem ge_bool (b : Bool) (k : Nat) (p : Pos) : GE c n C (.bool b k p) :=
  ge_plain (fun _ _ => rfl) fun sc env γ σ v σ' A s ρ e R F O X => by
    cases e
    intro Q E hQ
    exact wpAny_Constant_bool (Run.here O (.bool b) hQ s.toks)
theorem ge_int (i : Int) (k : Nat) (p : Pos) : GE c n C (.int i k p) :=
  ge_plain (fun _ _ => rfl) fun sc env γ σ v σ' A s ρ e R F O X => by
    cases e
    intro Q E hQ
    exact wpAny_Constant_int (Run.here O (.int _ _) hQ _)
theorem ge_str (S : Snd c n C) (i : Nat) (k : Nat) (p : Pos) : GE c n C (.str i k p) :=
  ge_plain (fun _ _ => rfl) fun sc env γ σ v σ' A s ρ e R F O X => by
    rw [evE_str] at e
    split at e
    · rename_i hi
      cases e
      intro Q E hQ
      exact wpAny_Constant_str (Run.here O (.str i _ (S.num ▸ Nat.le_of_ble_eq_true hi)) hQ _)
    · cases e
theorem ge_lv (x : Nat) (p : Pos) : GE c n C (.lv x p) :=
  ge_plain (fun _ _ => rfl) fun sc env γ σ v σ' A s ρ e R F O X => by
    rw [evE_lv] at e
    obtain ⟨w, hw, e⟩ := Option.map_eq_some_iff.mp e
    cases e
    exact lv_ok O X hw
theorem ge_gi (S : Snd c n C) (x : Nat) (p : Pos) : GE c n C (.gi x p) :=
  ge_plain (fun _ _ => rfl) fun sc env γ σ v σ' A s ρ e R F O X => by
    rw [evE_gi] at e
    split at e
    · rename_i hx
      obtain ⟨i, hi, e⟩ := Option.map_eq_some_iff.mp e
      cases e
      obtain ⟨t, ht⟩ := S.gi x i hi
      intro Q E hQ
      exact glob_ok O X hx ht (Run.here O (.int i t) hQ s.toks)
    · cases e
theorem ge_tup {es : IEs} (G : GEs c n C es) (k : Nat) (p : Pos) : GE c n C (.tup es k p) :=
  ge_plain (fun _ _ => rfl) fun sc env γ σ v σ' A s ρ e R F O X => by
    rw [evE_tup] at e
    obtain ⟨r, hr, e⟩ := Option.bind_eq_some_iff.mp e
    unfold mkTup at e
    split at e
    · rename_i hle
      cases e
      intro Q E hQ
      refine Tuple_ (G sc env γ σ r.1 r.2 A s ρ p hr R F O X _ _ fun xs ρ₁ h₁ tk g o r' => ?_)
      exact newTuple_ok (s := { s with heap := h₁, toks := tk }) o r' (okL_le hle) _ _ fun a ρ' h' tk' g' o' r'' => hQ a ρ' h' tk' (g.trans g') o' r''
    · cases e
theorem ge_lst {es : IEs} (G : GEs c n C es) (p : Pos) : GE c n C (.lst es p) :=
  ge_plain (fun _ _ => rfl) fun sc env γ σ v σ' A s ρ e R F O X => by
    rw [evE_lst] at e
    obtain ⟨r, hr, e⟩ := Option.bind_eq_some_iff.mp e
    unfold mkLst at e
    split at e
    · rename_i hle
      cases e
      intro Q E hQ
      refine List_ (G sc env γ σ r.1 r.2 A s ρ p hr R F O X _ _ fun xs ρ₁ h₁ tk g o r' => ?_)
      exact newList_ok (s := { s with heap := h₁, toks := tk }) o r' (okL_le hle) _ _ fun a ρ' h' tk' g' o' r'' => hQ a ρ' h' tk' (g.trans g') o' r''
    · cases e
theorem ge_idx (S : Snd c n C) {a i : IE} (Ga : GE c n C a) (Gi : GE c n C i) (p : Pos) : GE c n C (.idx a i p) :=
  ge_plain (fun _ _ => rfl) fun sc env γ σ v σ' A s ρ e R F O X => by
    rw [evE_idx] at e
    obtain ⟨ra, ha, e⟩ := Option.bind_eq_some_iff.mp e
    obtain ⟨rb, hb, e⟩ := Option.bind_eq_some_iff.mp e
    obtain ⟨w, hw, e⟩ := Option.map_eq_some_iff.mp e
    cases e
    intro Q E hQ
    refine Subscript_ ((Ga sc env γ σ ra.1 ra.2 A s ρ ha R F O X).1 _ _ fun x ρ₁ h₁ tk g o rx => ?_)
    refine (Gi sc env γ ra.2 rb.1 rb.2 A { s with heap := h₁, toks := tk } ρ₁ hb R (F.grow O.st g) o (X.grow O.st g)).1 _ _ fun y ρ₂ h₂ tk₂ g₂ o₂ ry => ?_
    exact idxV_ok (s := { s with heap := h₂, toks := tk₂ }) o₂ (rx.grow g₂ o.st) ry (S.ob ▸ hw) _ _ fun a ρ' h' tk' g' o' r' => hQ a ρ' h' tk' ((g.trans g₂).trans g') o' r'
theorem RvO.grow {ρ ρ' : List Addr} {σ : Store} {h h' : Heap} (x : Grow ρ h ρ' h') (S : St c.T ρ σ h) {y : Value} {v : Option V} (r : RvO c.T ρ h y v) : RvO c.T ρ' h' y v := by
  cases r with
  | no => exact .no
  | yes r => exact .yes (r.grow x S)
theorem ge_slc {a : IE} {lo hi : IEo} (Ga : GE c n C a) (Gl : GO c n C lo) (Gh : GO c n C hi) (ps p : Pos) : GE c n C (.slc a lo hi ps p) :=
  ge_plain (fun _ _ => rfl) fun sc env γ σ v σ' A s ρ e R F O X => by
    rw [evE_slc] at e
    obtain ⟨ra, ha, e⟩ := Option.bind_eq_some_iff.mp e
    obtain ⟨rb, hb, e⟩ := Option.bind_eq_some_iff.mp e
    obtain ⟨rc, hc, e⟩ := Option.bind_eq_some_iff.mp e
    intro Q E hQ
    refine Subscript_ ((Ga sc env γ σ ra.1 ra.2 A s ρ ha R F O X).1 _ _ fun x ρ₁ h₁ tk g o rx => wpAny_Slice ?_)
    refine Gl sc env γ ra.2 rb.1 rb.2 A { s with heap := h₁, toks := tk } ρ₁ hb R (F.grow O.st g) o (X.grow O.st g) _ _ fun y ρ₂ h₂ tk₂ g₂ o₂ ry => ?_
    refine Gh sc env γ rb.2 rc.1 rc.2 A { s with heap := h₂, toks := tk₂ } ρ₂ hc R (F.grow O.st (g.trans g₂)) o₂ (X.grow O.st (g.trans g₂)) _ _ fun z ρ₃ h₃ tk₃ g₃ o₃ rz => ?_
    refine evalPart_none_step ?_
    have g' := Grow.push ρ₃ h₃ { cls := .type "slice", data := .fields #[y, z, .none] }
    have G := (g.trans (g₂.trans g₃)).trans g'
    have o' := o₃.push { cls := .type "slice", data := .fields #[y, z, .none] }
    refine slcV_ok (s := { s with heap := h₃.push { cls := .type "slice", data := .fields #[y, z, .none] }, toks := tk₃ }) o' ((rx.grow (g₂.trans g₃) o.st).grow g' o₃.st) ((ry.grow g₃ o₂.st).grow g' o₃.st) (rz.grow g' o₃.st) (Heap.IsSliceOf.new ..) e _ _ fun a ρ' h' tk' gg oo r' => hQ a ρ' h' tk' (G.trans gg) oo r'
theorem ge_rev {a st : IE} (Ga : GE c n C a) (Gs : GE c n C st) (ps p : Pos) : GE c n C (.rev a st ps p) :=
  ge_plain (fun _ _ => rfl) fun sc env γ σ v σ' A s ρ e R F O X => by
    rw [evE_rev] at e
    obtain ⟨ra, ha, e⟩ := Option.bind_eq_some_iff.mp e
    obtain ⟨rb, hb, e⟩ := Option.bind_eq_some_iff.mp e
    intro Q E hQ
    refine Subscript_ ((Ga sc env γ σ ra.1 ra.2 A s ρ ha R F O X).1 _ _ fun x ρ₁ h₁ tk g o rx => wpAny_Slice (evalPart_none_step (evalPart_none_step (evalPart_some_step ?_))))
    refine (Gs sc env γ ra.2 rb.1 rb.2 A { s with heap := h₁, toks := tk } ρ₁ hb R (F.grow O.st g) o (X.grow O.st g)).1 _ _ fun y ρ₂ h₂ tk₂ g₂ o₂ ry => ?_
    have g' := Grow.push ρ₂ h₂ { cls := .type "slice", data := .fields #[.none, .none, y] }
    refine revV_ok (s := { s with heap := h₂.push { cls := .type "slice", data := .fields #[.none, .none, y] }, toks := tk₂ }) (o₂.push _) ((rx.grow g₂ o.st).grow g' o₂.st) (ry.grow g' o₂.st) (Heap.IsSliceOf.new ..) e _ _ fun a ρ' h' tk' gg oo r' => hQ a ρ' h' tk' (((g.trans g₂).trans g').trans gg) oo r'
theorem ge_bin {a b : IE} (o : Op) (Ga : GE c n C a) (Gb : GE c n C b) (p : Pos) : GE c n C (.bin o a b p) :=
  ge_plain (fun _ _ => rfl) fun sc env γ σ v σ' A s ρ e R F O X => by
    rw [evE_bin] at e
    obtain ⟨ra, ha, e⟩ := Option.bind_eq_some_iff.mp e
    obtain ⟨rb, hb, e⟩ := Option.bind_eq_some_iff.mp e
    intro Q E hQ
    refine wpAny_BinOp ((Ga sc env γ σ ra.1 ra.2 A s ρ ha R F O X).1 _ _ fun x ρ₁ h₁ tk g o rx => ?_)
    refine (Gb sc env γ ra.2 rb.1 rb.2 A { s with heap := h₁, toks := tk } ρ₁ hb R (F.grow O.st g) o (X.grow O.st g)).1 _ _ fun y ρ₂ h₂ tk₂ g₂ o₂ ry => ?_
    exact binV_ok (s := { s with heap := h₂, toks := tk₂ }) o₂ (rx.grow g₂ o.st) ry e _ _ fun a ρ' h' tk' gg oo r' => hQ a ρ' h' tk' ((g.trans g₂).trans gg) oo r'
theorem ge_cmp (S : Snd c n C) {a b : IE} (op : Cm) (Ga : GE c n C a) (Gb : GE c n C b) (p : Pos) : GE c n C (.cmp op a b p) := by
  intro sc env γ σ v σ' A s ρ e R F O X
  rw [evE_cmp] at e
  obtain ⟨ra, ha, e⟩ := Option.bind_eq_some_iff.mp e
  obtain ⟨rb, hb, e⟩ := Option.bind_eq_some_iff.mp e
  obtain ⟨r, hr, e⟩ := Option.map_eq_some_iff.mp e
  cases e
  refine ⟨fun Q E hQ => ?_, fun bb hbb Q E hQ => ?_⟩
  · refine wpAny_Compare1 ((Ga sc env γ σ ra.1 ra.2 A s ρ ha R F O X).1 _ _ fun x ρ₁ h₁ tk g o rx => ?_) (behind_ok hb c.T _)
    refine (Gb sc env γ ra.2 rb.1 rb.2 A { s with heap := h₁, toks := tk } ρ₁ hb R (F.grow O.st g) o (X.grow O.st g)).1 _ _ fun y ρ₂ h₂ tk₂ g₂ o₂ ry => ?_
    exact cmpV_ok (s := { s with heap := h₂, toks := tk₂ }) S.inS R o₂ (rx.grow g₂ o.st) ry hr _ _ fun a ρ' h' tk' gg oo r' => hQ a ρ' h' tk' ((g.trans g₂).trans gg) oo r'
  · cases hbb
    refine wpAny_isTrue_Compare1 ((Ga sc env γ σ ra.1 ra.2 A s ρ ha R F O X).1 _ _ fun x ρ₁ h₁ tk g o rx => ?_) (behind_ok hb c.T _)
    refine (Gb sc env γ ra.2 rb.1 rb.2 A { s with heap := h₁, toks := tk } ρ₁ hb R (F.grow O.st g) o (X.grow O.st g)).1 _ _ fun y ρ₂ h₂ tk₂ g₂ o₂ ry => ?_
    refine cmpV_ok (s := { s with heap := h₂, toks := tk₂ }) S.inS R o₂ (rx.grow g₂ o.st) ry hr _ _ fun a ρ' h' tk' gg oo r' => ?_
    cases r' with
    | bool _ => exact wpAny_truthy_bool (hQ ρ' h' tk' ((g.trans g₂).trans gg) oo)
theorem ge_not {a : IE} (Ga : GE c n C a) (p : Pos) : GE c n C (.not a p) := by
  intro sc env γ σ v σ' A s ρ e R F O X
  rw [evE_not] at e
  obtain ⟨ra, ha, e⟩ := Option.bind_eq_some_iff.mp e
  obtain ⟨r, hr, e⟩ := Option.map_eq_some_iff.mp e
  cases e
  refine ⟨fun Q E hQ => ?_, fun bb hbb Q E hQ => ?_⟩
  · refine UnaryOp_ ((Ga sc env γ σ ra.1 ra.2 A s ρ ha R F O X).1 _ _ fun x ρ₁ h₁ tk g o rx => not_of (truth_ok rx hr (hQ _ ρ₁ h₁ tk g o (.bool _))))
  · cases hbb
    exact isTrue_not ((Ga sc env γ σ ra.1 ra.2 A s ρ ha R F O X).2 r hr _ _ fun ρ' h' tk' g o => hQ ρ' h' tk' g o)
theorem ge_neg {a : IE} (Ga : GE c n C a) (p : Pos) : GE c n C (.neg a p) :=
  ge_plain (fun _ _ => rfl) fun sc env γ σ v σ' A s ρ e R F O X => by
    rw [evE_neg] at e
    obtain ⟨ra, ha, e⟩ := Option.bind_eq_some_iff.mp e
    split at e
    · rename_i i hi
      cases e
      intro Q E hQ
      refine UnaryOp_ ((Ga sc env γ σ ra.1 ra.2 A s ρ ha R F O X).1 _ _ fun x ρ₁ h₁ tk g o rx => ?_)
      rw [hi] at rx
      cases rx
      exact PySem.P.neg_int (hQ _ ρ₁ h₁ _ g o (.int _ _))
    · cases e
theorem ge_ite {t a b : IE} (Gt : GE c n C t) (Ga : GE c n C a) (Gb : GE c n C b) (p : Pos) : GE c n C (.ite t a b p) := by
  intro sc env γ σ v σ' A s ρ e R F O X
  rw [evE_ite] at e
  obtain ⟨rt, ht, e⟩ := Option.bind_eq_some_iff.mp e
  split at e
  · rename_i hb
    refine ⟨fun Q E hQ => ?_, fun bb hbb Q E hQ => ?_⟩
    · refine IfExp_ ((Gt sc env γ σ rt.1 rt.2 A s ρ ht R F O X).2 true hb _ _ fun ρ₁ h₁ tk g o => ?_)
      rw [if_pos rfl]
      exact (Ga sc env γ rt.2 v σ' A { s with heap := h₁, toks := tk } ρ₁ e R (F.grow O.st g) o (X.grow O.st g)).1 _ _ fun x ρ₂ h₂ tk₂ g₂ o₂ rx => hQ x ρ₂ h₂ tk₂ (g.trans g₂) o₂ rx
    · refine isTrue_IfExp ((Gt sc env γ σ rt.1 rt.2 A s ρ ht R F O X).2 true hb _ _ fun ρ₁ h₁ tk g o => ?_)
      rw [if_pos rfl]
      exact (Ga sc env γ rt.2 v σ' A { s with heap := h₁, toks := tk } ρ₁ e R (F.grow O.st g) o (X.grow O.st g)).2 bb hbb _ _ fun ρ₂ h₂ tk₂ g₂ o₂ => hQ ρ₂ h₂ tk₂ (g.trans g₂) o₂
  · rename_i hb
    refine ⟨fun Q E hQ => ?_, fun bb hbb Q E hQ => ?_⟩
    · refine IfExp_ ((Gt sc env γ σ rt.1 rt.2 A s ρ ht R F O X).2 false hb _ _ fun ρ₁ h₁ tk g o => ?_)
      rw [if_neg (by decide)]
      exact (Gb sc env γ rt.2 v σ' A { s with heap := h₁, toks := tk } ρ₁ e R (F.grow O.st g) o (X.grow O.st g)).1 _ _ fun x ρ₂ h₂ tk₂ g₂ o₂ rx => hQ x ρ₂ h₂ tk₂ (g.trans g₂) o₂ rx
    · refine isTrue_IfExp ((Gt sc env γ σ rt.1 rt.2 A s ρ ht R F O X).2 false hb _ _ fun ρ₁ h₁ tk g o => ?_)
      rw [if_neg (by decide)]
      exact (Gb sc env γ rt.2 v σ' A { s with heap := h₁, toks := tk } ρ₁ e R (F.grow O.st g) o (X.grow O.st g)).2 bb hbb _ _ fun ρ₂ h₂ tk₂ g₂ o₂ => hQ ρ₂ h₂ tk₂ (g.trans g₂) o₂
  · cases e

theorem ges_nil : GEs c n C .nil := by
  intro sc env γ σ vs σ' A s ρ pos e R F O X
  rw [evEs_nil] at e
  cases e
  exact fun Q E hQ => spliced_nil (hQ [] ρ s.heap s.toks (Grow.refl ..) O trivial)
theorem ges_cons {a : IE} {r : IEs} (Ga : GE c n C a) (Gr : GEs c n C r) : GEs c n C (.cons a r) := by
  intro sc env γ σ vs σ' A s ρ pos e R F O X
  rw [evEs_cons] at e
  obtain ⟨ra, ha, e⟩ := Option.bind_eq_some_iff.mp e
  obtain ⟨rb, hb, e⟩ := Option.map_eq_some_iff.mp e
  cases e
  have hs : backTo pos (starEach (dEs c.T (.cons a r)) env) = (false, eval (dE c.T a) env) :: backTo pos (starEach (dEs c.T r) env) := by
    show backTo pos (starEach (dE c.T a :: dEs c.T r) env) = _
    rw [star_cons ha c.T]
    rfl
  rw [hs]
  intro Q E hQ
  refine spliced_cons ((Ga sc env γ σ ra.1 ra.2 A s ρ ha R F O X).1 _ _ fun x ρ₁ h₁ tk g o rx => ?_)
  refine Gr sc env γ ra.2 rb.1 rb.2 A { s with heap := h₁, toks := tk } ρ₁ pos hb R (F.grow O.st g) o (X.grow O.st g) _ _ fun xs ρ₂ h₂ tk₂ g₂ o₂ rxs => ?_
  exact hQ (x :: xs) ρ₂ h₂ tk₂ (g.trans g₂) o₂ ⟨rx.grow g₂ o.st, rxs⟩
theorem go_no : GO c n C .no := by
  intro sc env γ σ v σ' A s ρ e R F O X
  rw [evO_no] at e
  cases e
  exact fun Q E hQ => evalPart_none_step (hQ _ ρ s.heap s.toks (Grow.refl ..) O .no)
theorem go_yes {a : IE} (Ga : GE c n C a) : GO c n C (.yes a) := by
  intro sc env γ σ v σ' A s ρ e R F O X
  rw [evO_yes] at e
  obtain ⟨ra, ha, e⟩ := Option.map_eq_some_iff.mp e
  cases e
  exact fun Q E hQ => evalPart_some_step ((Ga sc env γ σ ra.1 ra.2 A s ρ ha R F O X).1 _ _ fun x ρ₁ h₁ tk g o rx => hQ x ρ₁ h₁ tk g o (.yes rx))

theorem gand_nil : GAnd c n C .nil := by
  intro sc env γ σ v σ' A s ρ pos e R F O X
  rw [evAnd_nil] at e
  cases e
theorem gand_one {a : IE} (Ga : GE c n C a) : GAnd c n C (.cons a .nil) := by
  intro sc env γ σ v σ' A s ρ pos e R F O X
  rw [evAnd_cons_nil] at e
  obtain ⟨h1, h2⟩ := Ga sc env γ σ v σ' A s ρ e R F O X
  refine ⟨fun Q E hQ => BoolOp_one (h1 Q E hQ), fun b hb Q E w hQ => isTrue_and (h2 b hb _ _ fun ρ' h' tk g o => ?_)⟩
  cases b
  · exact hQ ρ' h' tk g o
  · exact isTrue_and_nil (hQ ρ' h' tk g o)
theorem gand_more {a b : IE} {r : IEs} (Ga : GE c n C a) (Gr : GAnd c n C (.cons b r)) : GAnd c n C (.cons a (.cons b r)) := by
  intro sc env γ σ v σ' A s ρ pos e R F O X
  rw [evAnd_cons_cons] at e
  obtain ⟨ra, ha, e⟩ := Option.bind_eq_some_iff.mp e
  obtain ⟨h1, h2⟩ := Ga sc env γ σ ra.1 ra.2 A s ρ ha R F O X
  split at e
  · rename_i ht
    refine ⟨fun Q E hQ => BoolOp_and (h1 _ _ fun x ρ₁ h₁ tk g o rx => truth_ok rx ht ?_), fun b hb Q E w hQ => isTrue_and (h2 true ht _ _ fun ρ₁ h₁ tk g o => ?_)⟩
    · rw [if_pos rfl]
      exact (Gr sc env γ ra.2 v σ' A { s with heap := h₁, toks := tk } ρ₁ pos e R (F.grow O.st g) o (X.grow O.st g)).1 _ _ fun x ρ₂ h₂ tk₂ g₂ o₂ rx => hQ x ρ₂ h₂ tk₂ (g.trans g₂) o₂ rx
    · rw [if_pos rfl]
      exact (Gr sc env γ ra.2 v σ' A { s with heap := h₁, toks := tk } ρ₁ pos e R (F.grow O.st g) o (X.grow O.st g)).2 b hb _ _ w fun ρ₂ h₂ tk₂ g₂ o₂ => hQ ρ₂ h₂ tk₂ (g.trans g₂) o₂
  · rename_i ht
    cases e
    refine ⟨fun Q E hQ => BoolOp_and (h1 _ _ fun x ρ₁ h₁ tk g o rx => truth_ok rx ht ?_), fun b hb Q E w hQ => isTrue_and (h2 false ht _ _ fun ρ₁ h₁ tk g o => ?_)⟩
    · exact hQ x ρ₁ h₁ tk g o rx
    · rw [ht] at hb; cases hb
      exact hQ ρ₁ h₁ tk g o
  · cases e
theorem gor_nil : GOr c n C .nil := by
  intro sc env γ σ v σ' A s ρ pos e R F O X
  rw [evOr_nil] at e
  cases e
theorem gor_one {a : IE} (Ga : GE c n C a) : GOr c n C (.cons a .nil) := by
  intro sc env γ σ v σ' A s ρ pos e R F O X
  rw [evOr_cons_nil] at e
  obtain ⟨h1, h2⟩ := Ga sc env γ σ v σ' A s ρ e R F O X
  refine ⟨fun Q E hQ => BoolOp_one (h1 Q E hQ), fun b hb Q E w hQ => isTrue_or (h2 b hb _ _ fun ρ' h' tk g o => ?_)⟩
  cases b
  · exact isTrue_or_nil (hQ ρ' h' tk g o)
  · exact hQ ρ' h' tk g o
theorem gor_more {a b : IE} {r : IEs} (Ga : GE c n C a) (Gr : GOr c n C (.cons b r)) : GOr c n C (.cons a (.cons b r)) := by
  intro sc env γ σ v σ' A s ρ pos e R F O X
  rw [evOr_cons_cons] at e
  obtain ⟨ra, ha, e⟩ := Option.bind_eq_some_iff.mp e
  obtain ⟨h1, h2⟩ := Ga sc env γ σ ra.1 ra.2 A s ρ ha R F O X
  split at e
  · rename_i ht
    cases e
    refine ⟨fun Q E hQ => BoolOp_or (h1 _ _ fun x ρ₁ h₁ tk g o rx => truth_ok rx ht ?_), fun b hb Q E w hQ => isTrue_or (h2 true ht _ _ fun ρ₁ h₁ tk g o => ?_)⟩
    · exact hQ x ρ₁ h₁ tk g o rx
    · rw [ht] at hb; cases hb
      exact hQ ρ₁ h₁ tk g o
  · rename_i ht
    refine ⟨fun Q E hQ => BoolOp_or (h1 _ _ fun x ρ₁ h₁ tk g o rx => truth_ok rx ht ?_), fun b hb Q E w hQ => isTrue_or (h2 false ht _ _ fun ρ₁ h₁ tk g o => ?_)⟩
    · rw [if_neg (by decide)]
      exact (Gr sc env γ ra.2 v σ' A { s with heap := h₁, toks := tk } ρ₁ pos e R (F.grow O.st g) o (X.grow O.st g)).1 _ _ fun x ρ₂ h₂ tk₂ g₂ o₂ rx => hQ x ρ₂ h₂ tk₂ (g.trans g₂) o₂ rx
    · rw [if_neg (by decide)]
      exact (Gr sc env γ ra.2 v σ' A { s with heap := h₁, toks := tk } ρ₁ pos e R (F.grow O.st g) o (X.grow O.st g)).2 b hb _ _ w fun ρ₂ h₂ tk₂ g₂ o₂ => hQ ρ₂ h₂ tk₂ (g.trans g₂) o₂
  · cases e
theorem ge_and {es : IEs} (G : GAnd c n C es) (p : Pos) : GE c n C (.and es p) := by
  intro sc env γ σ v σ' A s ρ e R F O X
  rw [evE_and] at e
  obtain ⟨h1, h2⟩ := G sc env γ σ v σ' A s ρ p e R F O X
  exact ⟨h1, fun b hb Q E hQ => h2 b hb Q E _ hQ⟩
theorem ge_or {es : IEs} (G : GOr c n C es) (p : Pos) : GE c n C (.or es p) := by
  intro sc env γ σ v σ' A s ρ e R F O X
  rw [evE_or] at e
  obtain ⟨h1, h2⟩ := G sc env γ σ v σ' A s ρ p e R F O X
  exact ⟨h1, fun b hb Q E hQ => h2 b hb Q E _ hQ⟩

theorem args_of {A : Around} {s : Shared} {ρ : List Addr} {es : IEs} {env : PySem.Env} {γ : Env1} {sc : Sc} {σ σ' : Store} {vs : List V} {pos : Pos} {f : Value} (O : Ok c ρ σ s.heap) (e : evEs C sc es γ σ = some (vs, σ'))
    (h : Run c A ρ s (spliced (backTo pos (starEach (dEs c.T es) env))) σ' (fun xs ρ' h' => RvL c.T ρ' h' xs vs)) {Q : Args → Shared → Prop} {E : Value → Shared → Prop}
    (k : ∀ xs ρ' h' tk, Grow ρ s.heap ρ' h' → Ok c ρ' σ' h' → RvL c.T ρ' h' xs vs → Q ⟨xs, []⟩ { s with heap := h', toks := tk }) :
    wpAny (model c.prog c.w) A (evalArgs f true (backTo pos (starEach (dEs c.T es) env)) []) Q E s := by
  cases es with
  | nil =>
    rw [evEs_nil] at e
    cases e
    exact evalArgs_nil3 (k [] ρ s.heap s.toks (Grow.refl ..) O trivial)
  | cons a r =>
    have hs : backTo pos (starEach (dEs c.T (.cons a r)) env) = (false, eval (dE c.T a) env) :: backTo pos (starEach (dEs c.T r) env) := by
      rw [evEs_cons] at e
      obtain ⟨ra, ha, e⟩ := Option.bind_eq_some_iff.mp e
      show backTo pos (starEach (dE c.T a :: dEs c.T r) env) = _
      rw [star_cons ha c.T]
      rfl
    rw [hs] at h ⊢
    exact evalArgs_plain (h _ _ k)

theorem callF_ok {A : Around} {s : Shared} {ρ : List Addr} {sc : Sc} {env : PySem.Env} {γ : Env1} {σ σ₁ σ' : Store} {es : IEs} {vs : List V} {f : Nat} {fp p : Pos} {r : Res} (S : Snd c n C) (G : GEs c n C es)
    (hf : sc.glb.contains f = true) (e : evEs C sc es γ σ = some (vs, σ₁)) (e' : C.Ψ f vs σ₁ = some (r, σ')) (R₀ : Room c C.mm A n) (F : FrOk c A s.heap) (O : Ok c ρ σ s.heap) (X : En c sc env γ ρ s.heap) :
    RunR c A ρ s (eval (.Call (.Name (c.T.nm f) fp) (dEs c.T es) [] p) env) r σ' := by
  obtain ⟨hmm, a, o, fd, hg, ho, hd, H⟩ := S.psi f vs σ₁ r σ' e'
  have R : Room c true A n := hmm ▸ R₀
  have key : ∀ (Q : Value → Shared → Prop) (E : Value → Shared → Prop), (∀ xs ρ' h' tk, Grow ρ s.heap ρ' h' → Ok c ρ' σ₁ h' → RvL c.T ρ' h' xs vs → wpAny (model c.prog c.w) A (call (.ref a) xs) Q E { s with heap := h', toks := tk }) →
      wpAny (model c.prog c.w) A (eval (.Call (.Name (c.T.nm f) fp) (dEs c.T es) [] p) env) Q E s := fun Q E k => by
    refine Call_Name rfl (glob_ok O X hf hg (callWith_function_kw (o := o) (fd := fd) ?_))
    exact args_of O e (G sc env γ σ vs σ₁ A s ρ p e R₀ F O X) fun xs ρ' h' tk g o' r' => ⟨⟨o'.base _ _ ho, hd⟩, k xs ρ' h' tk g o' r'⟩
  cases r with
  | ret v =>
    intro Q E hQ
    exact key Q E fun xs ρ₁ h₁ tk g o' r' => H A { s with heap := h₁, toks := tk } ρ₁ xs R (F.grow O.st g) o' r' _ _ fun x ρ₂ h₂ tk₂ g₂ o₂ rx => hQ x ρ₂ h₂ tk₂ (g.trans g₂) o₂ rx
  | exc m sp =>
    intro Q E hE
    exact key Q E fun xs ρ₁ h₁ tk g o' r' => H A { s with heap := h₁, toks := tk } ρ₁ xs R (F.grow O.st g) o' r' _ _ fun x ρ₂ h₂ tk₂ g₂ o₂ rx => hE x ρ₂ h₂ tk₂ (g.trans g₂) o₂ (rx.rebase fun a ha => push_fresh g ha)
theorem ge_call (S : Snd c n C) {es : IEs} (G : GEs c n C es) (f : Nat) (fp p : Pos) : GE c n C (.call f fp es p) :=
  ge_plain (fun _ _ => rfl) fun sc env γ σ v σ' A s ρ e R F O X => by
    rw [evE_call] at e
    split at e
    · rename_i hf
      obtain ⟨ra, ha, e⟩ := Option.bind_eq_some_iff.mp e
      split at e
      · rename_i hp
        cases e
        exact callF_ok S G hf ha hp R F O X
      · cases e
    · cases e
theorem callWith_bi {A : Around} {s : Shared} {pos : Pos} {bi : Bi} {args : List (Bool × Sem Value)} {Q : Value → Shared → Prop} {E : Value → Shared → Prop} (hp : args.any (·.1) = false)
    (h : wpAny (model c.prog c.w) A (evalArgs (biOf bi) true args []) (fun a s₁ => wpAny (model c.prog c.w) A (call (biOf bi) a.pos a.kw) Q E s₁) E s) : wpAny (model c.prog c.w) A (callWith pos (biOf bi) [] args []) Q E s := by
  cases bi with
  | len => exact Calls.callWith_builtin hp h
  | list => exact PySem.callWith_type hp h
  | tuple => exact PySem.callWith_type hp h
  | int => exact PySem.callWith_type hp h
  | max => exact Calls.callWith_builtin hp h
  | min => exact Calls.callWith_builtin hp h
  | range => exact PySem.callWith_type hp h
theorem ge_bcall (S : Snd c n C) {es : IEs} (G : GEs c n C es) (bi : Bi) (x : Nat) (fp p : Pos) : GE c n C (.bcall bi x fp es p) :=
  ge_plain (fun _ _ => rfl) fun sc env γ σ v σ' A s ρ e R F O X => by
    rw [evE_bcall] at e
    split at e
    · rename_i hx
      obtain ⟨ra, ha, e⟩ := Option.bind_eq_some_iff.mp e
      have hs := (Bool.and_eq_true_iff.mp hx).2
      have hx := (Bool.and_eq_true_iff.mp hx).1
      obtain ⟨h1, h2⟩ := S.bi bi x (Bool.and_eq_true_iff.mp hx).2
      intro Q E hQ
      refine Call_Name rfl (bui_ok O X (Bool.and_eq_true_iff.mp hx).1 h1 h2 (callWith_bi (evEs_stat c.T env p ha).1 ?_))
      refine args_of O ha (G sc env γ σ ra.1 ra.2 A s ρ p ha R F O X) fun xs ρ₁ h₁ tk g o' r' => ?_
      exact bcallV_ok (s := { s with heap := h₁, toks := tk }) (fun hb => R.handled (by rw [hb, Bool.or_false] at hs; exact hs)) o' r' (S.ob ▸ e) _ _ fun x ρ₂ h₂ tk₂ g₂ o₂ rx => hQ x ρ₂ h₂ tk₂ (g.trans g₂) o₂ rx
    · cases e
theorem meth_facts (m : Me) : Slot "list" (meName m) (meOf m) ∧ typeOf (.builtin (meOf m)) = pure (.type "method_descriptor") := by
  cases m
  · exact ⟨PySem.F.slot_list_append, PySem.F.type_list_append⟩
  · exact ⟨PySem.F.slot_list_extend, PySem.F.type_list_extend⟩
  · exact ⟨PySem.F.slot_list_pop, PySem.F.type_list_pop⟩
theorem methV_inv {m : Me} {a : V} {vs : List V} {σ : Store} {r : V × Store} (e : methV m a vs σ = some r) : ∃ k, a = .ref k ∧ vs.length ≤ 1 := by
  cases a with
  | ref k => cases m with
    | append =>
      obtain ⟨v0, rfl, _⟩ := arg1_inv e
      exact ⟨k, rfl, Nat.le_refl 1⟩
    | extend =>
      obtain ⟨v0, rfl, _⟩ := arg1_inv e
      exact ⟨k, rfl, Nat.le_refl 1⟩
    | pop => cases vs with
      | nil => exact ⟨k, rfl, Nat.zero_le 1⟩
      | cons _ _ => cases e
  | _ => cases e
theorem ge_meth {o : IE} {es : IEs} (Go : GE c n C o) (G : GEs c n C es) (m : Me) (ap p : Pos) : GE c n C (.meth o m ap es p) :=
  ge_plain (fun _ _ => rfl) fun sc env γ σ v σ' A s ρ e R F O X => by
    rw [evE_meth] at e
    split at e
    · rename_i hc
      obtain ⟨ro, hro, e⟩ := Option.bind_eq_some_iff.mp e
      obtain ⟨ra, ha, e⟩ := Option.bind_eq_some_iff.mp e
      have hlv : ∃ x p, o = .lv x p := by
        have := (Bool.and_eq_true_iff.mp hc).1
        cases o <;> first | exact ⟨_, _, rfl⟩ | (cases this)
      obtain ⟨k, hk, hlen⟩ := methV_inv e
      obtain ⟨st1, st2, st3⟩ := evEs_stat c.T env p ha
      obtain ⟨hs, hty⟩ := meth_facts m
      intro Q E hQ
      refine wpAny_Call_method_lateS (attr_ok hro hlv c.T _ env _) ?_ (by have := (Bool.and_eq_true_iff.mp hc).2; simpa using this) ?_
      · rw [Bool.and_eq_true_iff, Bool.and_eq_true_iff]
        exact ⟨⟨st2, rfl⟩, decide_eq_true (by rw [st3]; simp; omega)⟩
      · refine (Go sc env γ σ ro.1 ro.2 A s ρ hro R F O X).1 _ _ fun x ρ₁ h₁ tk g o' rx => ?_
        have rx' := rx
        rw [hk] at rx'
        obtain ⟨a, rfl, ha'⟩ := rx'.refInv
        obtain ⟨vals, n', gl⟩ := o'.st.isList (List.mem_of_getElem? ha')
        refine ⟨"list", meOf m, PySem.F.plainAttrs_list, hs, hty, ⟨_, gl, rfl⟩, fun b hb => by cases hb; exact ⟨_, gl, rfl⟩, ?_⟩
        refine Calls.callWith_builtin st1 ?_
        refine args_of (s := { s with heap := h₁, toks := tk }) o' ha (G sc env γ ro.2 ra.1 ra.2 A { s with heap := h₁, toks := tk } ρ₁ p ha R (F.grow O.st g) o' (X.grow O.st g)) fun xs ρ₂ h₂ tk₂ g₂ o₂ rxs => ?_
        exact methV_ok (s := { s with heap := h₂, toks := tk₂ }) o₂ (rx.grow g₂ o'.st) rxs e _ _ fun x ρ₃ h₃ tk₃ g₃ o₃ rx => hQ x ρ₃ h₃ tk₃ ((g.trans g₂).trans g₃) o₃ rx
    · cases e
theorem ge_hook (S : Snd c n C) (k x y : Nat) (p1 p2 : Pos) : GE c n C (.hook k x y p1 p2) :=
  ge_plain (fun _ _ => rfl) fun sc env γ σ v σ' A s ρ e R F O X => by
    rw [evE_hook] at e
    split at e
    · rename_i a ha
      obtain ⟨w, hw, e⟩ := Option.map_eq_some_iff.mp e
      cases e
      intro Q E hQ
      show wpAny _ _ (eval (.Attribute (.Name (c.T.nm x) p1) (c.T.nm y) p2) env) Q E s
      rw [arm_eval_Attribute]
      show wpAny _ _ (do let o ← eval (.Name (c.T.nm x) p1) env; standAt p2.atName; let r ← holding [o] (getAttr o (c.T.nm y) true); letTemporaryGo (.Name (c.T.nm x) p1) o r; pure r) Q E s
      refine wpAny_bind (lv_ok O X ha _ _ fun z ρ₁ h₁ tk g o rz => wpAny_bind (wpAny_standAt (wpAny_bind (wpAny_holding ?_))))
      cases rz
      exact S.hook y a _ hw A ρ₁ σ { s with heap := h₁, toks := tk } o _ _ fun z ρ₂ h₂ tk₂ g₂ o₂ rz => wpAny_bind (wpAny_pure (wpAny_pure (hQ z ρ₂ h₂ tk₂ (g.trans g₂) o₂ rz)))
    · cases e
end
end Mine
end
section
open PySem PySem.W PySem.Calls
set_option maxRecDepth 100000
set_option linter.unusedVariables false
set_option autoImplicit false
namespace Mine
section
variable {prog : Program} {w : World} {A : Around} {E : Value → Shared → Prop} {s : Shared}
theorem entry_unchain : entryFor table "proto.unchain" = some Builtin.«proto.unchain» := entryFor_of_tree (by kernel_rfl)

/-- a new exception is raised while another is handled -/
theorem raise_over {α : Type} {e x : Addr} {oe ox : Obj} {ve vx : Array Value} {Q : α → Shared → Prop} (hh : A.handled = some (.ref x)) (hne : x ≠ e) (hx : s.heap.get? x = some ox) (hxd : ox.data = .fields vx) (h2 : vx[2]? = some .none)
    (he : s.heap.get? e = some oe) (hed : oe.data = .fields ve) (hsz : 2 < ve.size) (hE : E (.ref e) { s with heap := s.heap.update e (Obj.mapFields (·.setIfInBounds 2 (.ref x))) }) : wpAny (model prog w) A (raiseNew (.ref e) : Sem α) Q E s := by
  unfold raiseNew
  refine wpAny_bind (wpAny_handled ?_)
  rw [hh]
  dsimp only
  rw [if_pos (show (Value.ref x != Value.ref e) = true from by simpa using hne)]
  refine wpAny_bind (wpAny_holding (wpAny_runValue (codeAny_builtin entry_unchain ?_)))
  have : wpAny (model prog w) (A.under (.builtin "proto.unchain" ⟨[.ref e, .ref x, .ref x, .bool false], []⟩)) (Builtin.«proto.unchain» ⟨[.ref e, .ref x, .ref x, .bool false], []⟩) (fun fin s' => fin = .done (.ret .none) ∧ s' = s) (fun _ _ => False) s := by
    unfold Builtin.«proto.unchain»
    refine wpAny_bind (wpAny_field hx hxd h2 ?_)
    rw [if_pos (by decide)]
    exact wpAny_bind (wpAny_pure (wpAny_pure ⟨rfl, rfl⟩))
  refine wpAny_mono this (fun fin s' hf => ?_) (fun _ _ f => f.elim)
  obtain ⟨rfl, rfl⟩ := hf
  show wpAny _ _ (do updateField e 2 (.ref x); throw (.ref e)) _ _ _
  refine wpAny_bind ?_
  unfold updateField
  refine wpAny_bind (wpAny_load he ?_)
  rw [hed]
  dsimp only
  rw [if_pos hsz]
  exact wpAny_update he (wpAny_throw hE)

/-- a list's iteration ends while an exception is handled -/
theorem list_end_over {x it l : Addr} {i : Nat} {items : Array Value} {ox : Obj} {vx : Array Value} {Q : Option Value → Shared → Prop} (hh : A.handled = some (.ref x)) (hx : s.heap.get? x = some ox) (hxd : ox.data = .fields vx) (h2 : vx[2]? = some .none) (hxi : x ≠ it)
    (hit : s.heap.IsListIter it l i) (hl : s.heap.IsList l items) (hend : items[i]? = none)
    (hQ : ∀ h', Heap.ExtBut it s.heap h' → Q none { s with heap := h' }) : wpAny (model prog w) A (pyNext (.ref it)) Q E s := by
  obtain ⟨o, ho, hc, hd⟩ := id hit
  obtain ⟨ol, hol, _, nl, hdl⟩ := hl
  unfold pyNext
  refine wpAny_bind (wpAny_attempt (wpAny_callSpecial?_slot (name := Str.ofString "__next__") hit.typeIs slot_listiter_next
    (wpAny_call_entry slot_listiter_next hit.typeIs entry_listiter_next ?_ (args_listiter_next _))))
  show wpAny _ _ (field (.ref it) 0 >>= _) _ _ s
  refine wpAny_bind (wpAny_field ho hd (x := .ref l) rfl ?_)
  show wpAny _ _ (if (Value.ref l == Value.none) = true then _ else _) _ _ s
  rw [if_neg (show ¬ ((Value.ref l == Value.none) = true) from Bool.false_ne_true)]
  show wpAny _ _ (field (.ref it) 1 >>= _) _ _ s
  refine wpAny_bind (wpAny_field ho hd (x := .int i 0) rfl ?_)
  show wpAny _ _ (seqItems? (.ref l) >>= _) _ _ s
  refine wpAny_bind (wpAny_seqItems hol hdl ?_)
  simp only [Int.toNat_natCast, hend]
  refine wpAny_bind (wpAny_rule (wpAny_bind (wpAny_setField ho hd (by simp) ?_)))
  generalize hH : s.heap.update it (Obj.mapFields fun x => x.setIfInBounds 0 Value.none) = H
  have hsb : Heap.SameBut it s.heap H := hH ▸ Heap.SameBut.update ..
  show wpAny _ _ (newExc (.type "StopIteration") [] >>= _) _ _ _
  refine wpAny_bind ?_
  simp only [newExc, newTuple]
  refine wpAny_bind (wpAny_newObj_type ?_ (by size_fits))
  refine wpAny_bind (m := firstArgMember _ _) (wpAny_of_eq (a := Value.none) (by first | rfl | (simp only [firstArgMember]; rfl)) ?_)
  refine wpAny_newObj_type ?_ (by size_fits)
  have hx' : H.get? x = some ox := (hsb.2 x hxi).trans hx
  have hx2 : ((H.push { cls := .type "tuple", data := .seq #[] }).push { cls := .type "StopIteration", data := .fields (#[.ref H.objs.size, .none, .none, .none, .bool false, .none] ++ ownMembersOf (.type "StopIteration") []) }).get? x = some ox := Heap.get?_push_of_some _ (Heap.get?_push_of_some _ hx')
  have he2 := Heap.get?_push_size (H.push { cls := .type "tuple", data := .seq #[] }) (o := { cls := .type "StopIteration", data := .fields (#[.ref H.objs.size, .none, .none, .none, .bool false, .none] ++ ownMembersOf (.type "StopIteration") []) }) rfl
  refine raise_over (A := A.in1) hh (Nat.ne_of_lt (Heap.lt_size (Heap.get?_push_of_some _ hx'))) hx2 hxd h2 he2 rfl (by rw [Array.size_append]; exact Nat.lt_of_lt_of_le (show 2 < (#[Value.ref H.objs.size, .none, .none, .none, .bool false, .none] : Array Value).size by simp) (Nat.le_add_right _ _)) ?_
  have hT := Heap.get?_update_self (Obj.mapFields fun x_1 => x_1.setIfInBounds 2 (Value.ref x)) he2 rfl
  refine wpAny_bind (wpAny_isInstance (T := "StopIteration") (b := true) ⟨_, hT, rfl⟩ isSubtype_stop ?_)
  refine wpAny_pure (hQ _ fun b ob hb e => ?_)
  have e1 := (hsb.2 b hb).trans e
  have e2 := Heap.get?_push_of_some { cls := .type "tuple", data := .seq #[] } e1
  exact (Heap.get?_update_other _ _ (Ne.symm (Nat.ne_of_lt (Heap.lt_size e2)))).trans (Heap.get?_push_of_some _ e2)
end
end Mine
end
section
open PySem PySem.W PyProof.Rows PySem.Calls PySem.SeqAt
set_option maxRecDepth 100000
set_option linter.unusedVariables false
set_option autoImplicit false
namespace Mine

/-- an iterator over a source, at a place -/
noncomputable def ItAt (T : Tab) (it : Addr) (src : Src) (i : Nat) (ρ : List Addr) (h : Heap) : Prop :=
  match src with
  | .tup l => ∃ t vals n, h.IsTupleIter it t i ∧ h.get? t = some { cls := .type "tuple", data := .seq vals n } ∧ RvL T ρ h vals.toList l
  | .lst k => ∃ a, ρ[k]? = some a ∧ h.IsListIter it a i
  | .rng n => PySem.IsRangeIter h it (i : Int) ((n : Int) - (i : Int)) 1

section
variable {c : Cx} {A : Around} {ρ ρ' : List Addr} {σ : Store} {s : Shared} {it : Addr} {src : Src} {i : Nat}

theorem ItAt.obj {T : Tab} {h : Heap} (I : ItAt T it src i ρ h) : ∃ o vs, h.get? it = some o ∧ o.data = .fields vs := by
  unfold ItAt at I
  split at I
  · obtain ⟨t, vals, n, ⟨o, h1, _, h2⟩, _⟩ := I; exact ⟨o, _, h1, h2⟩
  · obtain ⟨a, _, o, h1, _, h2⟩ := I; exact ⟨o, _, h1, h2⟩
  · exact ⟨_, _, I, rfl⟩
theorem ItAt.noTup {T : Tab} {h : Heap} (I : ItAt T it src i ρ h) : ∀ vals n, h.get? it ≠ some { cls := .type "tuple", data := .seq vals n } := by
  obtain ⟨o, vs, h1, h2⟩ := I.obj
  intro vals n q
  rw [h1] at q; cases q; cases h2
theorem ItAt.off {T : Tab} {h : Heap} (I : ItAt T it src i ρ h) (O : St T ρ σ h) : it ∉ ρ := by
  obtain ⟨o, vs, h1, h2⟩ := I.obj
  exact O.off h1 fun its n q => by rw [q] at h2; cases h2
theorem ItAt.gb {T : Tab} {S : List Addr} {h h' : Heap} (I : ItAt T it src i ρ h) (O : St T ρ σ h) (g : Gb S ρ h ρ' h') (hS : it ∉ S) (hT : NoTup S h) : ItAt T it src i ρ' h' := by
  have hoff := I.off O
  unfold ItAt at I ⊢
  split at I
  · obtain ⟨t, vals, n, ⟨o, h1, h2, h3⟩, h4, h5⟩ := I
    exact ⟨t, vals, n, ⟨o, g.exact h1 hoff hS (fun es ep q => by rw [q] at h3; cases h3), h2, h3⟩, g.exact h4 (O.tupOff h4) (fun q => hT t q _ _ h4) (fun es ep q => by cases q), g.rvl O hT h5⟩
  · obtain ⟨a, h0, o, h1, h2, h3⟩ := I
    obtain ⟨m, rfl, _⟩ := g.more
    exact ⟨a, by rw [List.getElem?_append_left (List.getElem?_eq_some_iff.mp h0).1]; exact h0, o, g.exact h1 hoff hS (fun es ep q => by rw [q] at h3; cases h3), h2, h3⟩
  · exact g.exact I hoff hS (fun es ep q => by cases q)

/-- the next item -/
theorem next_ok (hh : HdOk c A) (hsrc : A.handled = none ∨ ∃ k, src = .lst k) (O : Ok c ρ σ s.heap) (I : ItAt c.T it src i ρ s.heap) {r : Option V} (e : srcAt src σ i = some r) {Q : Option Value → Shared → Prop} {E : Value → Shared → Prop}
    (hend : r = none → ∀ h', Heap.ExtBut it s.heap h' → Q none { s with heap := h' })
    (hitem : ∀ v, r = some v → ∀ x h' tk, Rv c.T ρ s.heap x v → ItAt c.T it src (i + 1) ρ h' → Heap.SameBut it s.heap h' → Q (some x) { s with heap := h', toks := tk }) :
    wpAny (model c.prog c.w) A (pyNext (.ref it)) Q E s := by
  have hnt := I.noTup
  have hoff := I.off O.st
  unfold srcAt at e
  unfold ItAt at I
  cases src with
  | tup l =>
    obtain ⟨t, vals, n, h1, h2, h3⟩ := I
    have hT : s.heap.IsTuple t vals := ⟨_, h2, rfl, n, rfl⟩
    cases e
    cases hl : l[i]? with
    | none =>
      have hv : vals[i]? = none := by
        have h4 := h3.length
        rw [List.getElem?_eq_none_iff] at hl
        rw [Array.getElem?_eq_none_iff]
        have : vals.size = l.length := by rw [← h4]; simp
        omega
      have hh : A.handled = none := by rcases hsrc with h | ⟨k, h⟩ <;> first | exact h | cases h
      exact wpAny_pyNext_tuple_end hh h1 hT hv fun h' hs => hend hl h' hs
    | some v =>
      obtain ⟨x, hx, rx⟩ := h3.at hl
      refine wpAny_pyNext_tuple_item h1 hT (x := x) (by rw [← Array.getElem?_toList]; exact hx) fun h' hi hs => ?_
      have hne : t ≠ it := fun q => hnt _ _ (q ▸ h2)
      refine hitem v hl x h' s.toks rx ⟨t, vals, n, hi, (hs.2 t hne).trans h2, ?_⟩ hs
      exact h3.mono ⟨[], by simp⟩ fun b vs m e => (hs.2 b fun q => hnt _ _ (q ▸ e)).trans e
  | lst k =>
    obtain ⟨a, ha, h1⟩ := I
    simp only at e
    cases hk : σ[k]? with
    | none => rw [hk] at e; cases e
    | some l =>
      rw [hk] at e
      cases e
      obtain ⟨vs, n, g1, r1⟩ := O.st.listAt ha hk
      have hL : s.heap.IsList a vs.toArray := ⟨_, g1, rfl, n, rfl⟩
      cases hl : l[i]? with
      | none =>
        have hv : vs.toArray[i]? = none := by
          have h4 := r1.length
          rw [List.getElem?_eq_none_iff] at hl
          rw [Array.getElem?_eq_none_iff, List.size_toArray]
          omega
        rcases hh with hh | ⟨x, o, vx, hh, hx, hxd, h2⟩
        · exact wpAny_pyNext_list_end hh h1 hL hv fun h' hs => hend hl h' hs
        · have hx' := O.base _ _ hx
          refine list_end_over hh hx' hxd h2 (fun z => ?_) h1 hL hv fun h' hs => hend hl h' hs
          subst z
          obtain ⟨oi, ho, _, hd⟩ := h1
          rw [hx'] at ho
          cases ho
          rw [hxd] at hd
          cases hd
          cases h2
      | some v =>
        obtain ⟨x, hx, rx⟩ := r1.at hl
        exact wpAny_pyNext_list_item h1 hL (x := x) (by simpa using hx) fun h' hi hs => hitem v hl x h' s.toks rx ⟨a, ha, hi⟩ hs
  | rng n =>
    simp only at e
    cases e
    by_cases hi : i < n
    · have hb : Nat.blt i n = true := Nat.ble_eq_true_of_le hi
      refine PySem.wpAny_pyNext_range_item I (by omega) fun h' hi' hs => hitem _ (by rw [if_pos hb]) _ h' _ (.int _ _) ?_ hs
      show PySem.IsRangeIter h' it ((i + 1 : Nat) : Int) ((n : Int) - ((i + 1 : Nat) : Int)) 1
      have e1 : ((i + 1 : Nat) : Int) = (i : Int) + 1 := by omega
      have e2 : (n : Int) - ((i + 1 : Nat) : Int) = (n : Int) - (i : Int) - 1 := by omega
      rw [e1, ← e1, e2, e1]
      exact hi'
    · have hb : ¬ Nat.blt i n = true := fun q => hi (Nat.le_of_ble_eq_true q)
      have hh : A.handled = none := by rcases hsrc with h | ⟨k, h⟩ <;> first | exact h | cases h
      exact PySem.wpAny_pyNext_range_end hh I (by omega) fun h' hs => hend (by rw [if_neg hb]) h' hs

theorem fresh_size (h : Heap) : h.get? h.objs.size = none := by
  cases q : h.get? h.objs.size with
  | none => rfl
  | some o => exact absurd (Heap.lt_size q) (Nat.lt_irrefl _)
/-- an iterator is made -/
theorem iter_ok {x : Value} {v : V} (O : Ok c ρ σ s.heap) (r : Rv c.T ρ s.heap x v) (e : srcOf v = some src) {Q : Value → Shared → Prop} {E : Value → Shared → Prop}
    (hQ : ∀ o vs, o.data = .fields vs → ItAt c.T s.heap.objs.size src 0 ρ (s.heap.push o) → Q (.ref s.heap.objs.size) { s with heap := s.heap.push o }) :
    wpAny (model c.prog c.w) A (pyIter x) Q E s := by
  unfold srcOf at e
  split at e
  · cases e
    obtain ⟨t, vs, n, rfl, g, r1, hT⟩ := r.isT
    refine wpAny_pyIter_tuple hT (hQ _ _ rfl ⟨t, vs.toArray, n, ⟨_, Heap.get?_push_size _ rfl, rfl, rfl⟩, Heap.get?_push_of_some _ g, ?_⟩)
    exact r1.mono ⟨[], by simp⟩ fun b vs m e => Heap.get?_push_of_some _ e
  · cases e
    obtain ⟨a, rfl, ha⟩ := r.refInv
    obtain ⟨vals, n, g⟩ := O.st.isList (List.mem_of_getElem? ha)
    exact wpAny_pyIter_list ⟨_, g, rfl, n, rfl⟩ (hQ _ _ rfl ⟨a, ha, ⟨_, Heap.get?_push_size _ rfl, rfl, rfl⟩⟩)
  · cases e
end
end Mine
end
section
open PySem PySem.W PyProof.Rows PySem.Calls PySem.SeqAt
set_option maxRecDepth 100000
set_option linter.unusedVariables false
set_option autoImplicit false
namespace Mine
section
variable {c : Cx} {A : Around} {ρ ρ' ρ₁ : List Addr} {h₁ : Heap} {σ : Store} {s : Shared} {sc sc' : Sc} {env : PySem.Env} {γ γ' : Env1}

theorem En.look {h : Heap} (X : En c sc env γ ρ h) (e : ∀ y v, γ'.lookup y = some v → γ.lookup y = some v) : En c sc env γ' ρ h :=
  ⟨X.kind, X.glo, X.bui, X.loc, X.cel, X.glb, X.apart, X.ns, fun x v hx => X.vars x v (e x v hx)⟩

theorem storeL_ok : ∀ (xs : List (Nat × Pos)) {l : List V} {vals : List Value} {γ γ' : Env1} {s : Shared} (O : Ok c ρ σ s.heap) (X : En c sc env γ ρ s.heap) (G : Grow ρ₁ h₁ ρ s.heap) (hb : ∀ b o, c.h₀.get? b = some o → h₁.get? b = some o)
    (W : Own c sc sc' env h₁) (r : RvL c.T ρ s.heap vals l) (e : storeL sc' xs l γ = some γ') {Q : Unit → Shared → Prop} {E : Value → Shared → Prop} (fs : List (Value → Sem Unit)) (hf : fs.length = xs.length)
    (hfs : ∀ (i : Nat) (f : Value → Sem Unit) (q : Nat × Pos), fs[i]? = some f → xs[i]? = some q → ∀ v (Q : Unit → Shared → Prop) (E : Value → Shared → Prop) (s : Shared), wpAny (model c.prog c.w) A (storeName env (c.T.nm q.1) v) Q E s → wpAny (model c.prog c.w) A (f v) Q E s)
    (hQ : ∀ h' tk, Ok c ρ σ h' → En c sc env γ' ρ h' → Grow ρ₁ h₁ ρ h' → Kp s.heap h' → Gb (frs c sc' env) ρ s.heap ρ h' → Q () { s with heap := h', toks := tk }),
    wpAny (model c.prog c.w) A (assignInOrder fs vals) Q E s
  | [], l, vals, γ, γ', s, O, X, G, hb, W, r, e, Q, E, fs, hf, hfs, hQ => by
    have : fs = [] := List.eq_nil_of_length_eq_zero hf
    subst this
    cases l with
    | nil =>
      cases e
      cases vals with
      | nil => exact wpAny_pure (hQ s.heap s.toks O X G (fun b o e _ _ => e) (Gb.ofGrow (Grow.refl ..)))
      | cons _ _ => cases r
    | cons _ _ => cases e
  | q :: xs, l, vals, γ, γ', s, O, X, G, hb, W, r, e, Q, E, fs, hf, hfs, hQ => by
    cases l with
    | nil => cases e
    | cons v l =>
      cases vals with
      | nil => cases r
      | cons x vals =>
        cases fs with
        | nil => cases hf
        | cons f fs =>
          obtain ⟨γ₁, e1, e2⟩ := Option.bind_eq_some_iff.mp e
          show wpAny _ _ (do holding vals (f x); assignInOrder fs vals) Q E s
          refine wpAny_bind (wpAny_holding (hfs 0 f q rfl rfl x _ _ s (store_ok O X G hb W r.1 e1 fun h' tk O' X' G' K' B' => ?_)))
          have r' : RvL c.T ρ h' vals l := r.2.mono ⟨[], by simp⟩ fun b vs n e => K' b _ e (fun es ep q => by cases q) fun v q => by cases q
          refine storeL_ok xs (s := { s with heap := h', toks := tk }) O' X' G' hb W r' e2 fs (by simpa using hf) (fun i f q h1 h2 => hfs (i + 1) f q (by simpa using h1) (by simpa using h2)) fun h'' tk' O'' X'' G'' K'' B'' => ?_
          exact hQ h'' tk' O'' X'' G'' (K'.trans K'') (B'.trans B'' (X'.inFrs W.sub2))

theorem assignEach_names (T : Tab) (env : PySem.Env) : ∀ xs : List (Nat × Pos), assignEach (xs.map fun q => Expr.Name (T.nm q.1) q.2) env = xs.map fun q => (false, assign (Expr.Name (T.nm q.1) q.2) env)
  | [] => rfl
  | q :: xs => by
    show (false, assign (Expr.Name (T.nm q.1) q.2) env) :: assignEach (xs.map fun q => Expr.Name (T.nm q.1) q.2) env = _
    rw [assignEach_names T env xs]
    rfl
theorem storeL_len {sc : Sc} : ∀ {xs : List (Nat × Pos)} {l : List V} {γ γ' : Env1}, storeL sc xs l γ = some γ' → xs.length = l.length
  | [], [], _, _, _ => rfl
  | [], _ :: _, _, _, e => by cases e
  | _ :: _, [], _, _, e => by cases e
  | x :: xs, v :: l, γ, γ', e => by
    obtain ⟨γ₁, e1, e2⟩ := Option.bind_eq_some_iff.mp e
    simp [storeL_len e2]

theorem unpackQ {h h' : Heap} (hs : Heap.ExtBut h.objs.size h h') : ∀ b o, h.get? b = some o → h'.get? b = some o := fun b o e => hs b o (Nat.ne_of_lt (Heap.lt_size e)) e

/-- a target is bound -/
theorem bindT_ok {t : Tgt} {x : Value} {v : V} (hh : oneT t = false → A.handled = none) (O : Ok c ρ σ s.heap) (X : En c sc env γ ρ s.heap) (G : Grow ρ₁ h₁ ρ s.heap) (hb : ∀ b o, c.h₀.get? b = some o → h₁.get? b = some o)
    (W : Own c sc sc' env h₁) (r : Rv c.T ρ s.heap x v) (e : bindT sc' t v γ = some γ') {Q : Unit → Shared → Prop} {E : Value → Shared → Prop}
    (hQ : ∀ h' tk, Ok c ρ σ h' → En c sc env γ' ρ h' → Grow ρ₁ h₁ ρ h' → Kp s.heap h' → Gb (frs c sc' env) ρ s.heap ρ h' → Q () { s with heap := h', toks := tk }) :
    wpAny (model c.prog c.w) A (assign (dT c.T t) env x) Q E s := by
  unfold bindT at e
  split at e
  · exact wpAny_assign_Name (store_ok O X G hb W r e hQ)
  · rename_i xs k p l
    obtain ⟨a, vs, n, rfl, g, r1, hT⟩ := r.isT
    have hl : xs.length = l.length := storeL_len e
    refine wpAny_assign_Tuple (hh rfl) hT ?_ ?_ fun h' hs => ?_
    · rw [assignEach_names, List.length_map, List.size_toArray, r1.length, hl]
    · rw [assignEach_names, List.findIdx?_eq_none_iff]
      intro z hz
      obtain ⟨q, _, rfl⟩ := List.mem_map.mp hz
      rfl
    · have hk := unpackQ hs
      refine storeL_ok xs (s := { s with heap := h' }) (O.ext hk) (X.grow O.st (Grow.ext hk)) (G.trans (Grow.ext hk)) hb W (r1.mono ⟨[], by simp⟩ fun b vs n e => hk _ _ e) e _ ?_ ?_ fun h'' tk O' X' G' K' B' => hQ h'' tk O' X' G' (Kp.trans (fun b o e _ _ => hk b o e) K') ((Gb.ofGrow (Grow.ext hk)).trans B' ((X.grow O.st (Grow.ext hk)).inFrs W.sub2))
      · rw [assignEach_names]; simp
      · intro i f q h1 h2 v Q E s hw
        rw [assignEach_names, List.map_map, List.getElem?_map, h2] at h1
        cases h1
        exact wpAny_assign_Name hw
  · cases e

theorem owned_ok {T : Tab} {target : Expr} {it : Addr} {src : Src} {i : Nat} {v : Value} {Q : Unit → Shared → Prop} {E : Value → Shared → Prop} (I : ItAt T it src i ρ s.heap) (h : Q () s) : wpAny (model c.prog c.w) A (letOwnedTupleGo target (.ref it) v) Q E s := by
  have key : ∀ o n vs, s.heap.get? it = some o → o.cls = .type n → o.data = .fields vs → (["enumerate", "zip", "dict_itemiterator", "dict_reverseitemiterator", "odict_iterator", "itertools.zip_longest", "itertools.pairwise"].contains n) = false → wpAny (model c.prog c.w) A (letOwnedTupleGo target (.ref it) v) Q E s := by
    intro o n vs ho hc hd hn
    unfold letOwnedTupleGo
    split
    · split
      · rename_i hq
        cases hq
        refine wpAny_bind (wpAny_load ho ?_)
        rw [hc, hd]
        show wpAny _ _ (if (["enumerate", "zip", "dict_itemiterator", "dict_reverseitemiterator", "odict_iterator", "itertools.zip_longest", "itertools.pairwise"].contains n && _) = true then _ else _) Q E s
        rw [hn, Bool.false_and, if_neg (by decide)]
        exact wpAny_pure h
      · exact wpAny_pure h
    · split
      · rename_i hq
        cases hq
        refine wpAny_bind (wpAny_load ho ?_)
        rw [hc, hd]
        show wpAny _ _ (if (["enumerate", "zip", "dict_itemiterator", "dict_reverseitemiterator", "odict_iterator", "itertools.zip_longest", "itertools.pairwise"].contains n && _) = true then _ else _) Q E s
        rw [hn, Bool.false_and, if_neg (by decide)]
        exact wpAny_pure h
      · exact wpAny_pure h
    · exact wpAny_pure h
  unfold ItAt at I
  split at I
  · obtain ⟨t, vals, n, ⟨o, h1, h2, h3⟩, _⟩ := I
    exact key o _ _ h1 h2 h3 (by decide)
  · obtain ⟨a, _, o, h1, h2, h3⟩ := I
    exact key o _ _ h1 h2 h3 (by decide)
  · exact key _ _ _ I rfl rfl (by decide)
end

/-- the loop of a comprehension, whatever its target and its tests -/
theorem compLoop_any {prog : Program} {w : World} {A : Around} {s : Shared} {elt target iter : Expr} {ifs : List Expr} {scope : Scope} {pos : Pos} {it acc : Value} {env : PySem.Env} {R : Result → Shared → Prop} (I : Nat → Shared → Prop)
    (turn : ∀ n s, I n s → wpAny (model prog w) A (pyNext it) (fun r s₁ => match r with
      | none => R (.ok .next) s₁
      | some v => wpAny (model prog w) A (letOwnedTupleGo target it v) (fun _ s₁' => wpAny (model prog w) A (assign target env v) (fun _ s₂ =>
          wpAny (model prog w) A (forIn ifs true fun c r => if r = true then do let ok ← isTrue c env (eval c env); pure (ForInStep.yield ok) else pure (ForInStep.yield r)) (fun ok s₃ =>
            if ok = true then wpAny (model prog w) A (eval elt env) (fun x s₄ =>
              wpAny (model prog w) A (call (.builtin "list.append") [acc, x]) (fun _ s₅ => ∃ m, m < n ∧ I m s₅) (notedBy (model prog w) A env fun e s' => R (.error e) s') s₄) (notedBy (model prog w) A env fun e s' => R (.error e) s') s₃
            else ∃ m, m < n ∧ I m s₃) (notedBy (model prog w) A env fun e s' => R (.error e) s') s₂) (notedBy (model prog w) A env fun e s' => R (.error e) s') s₁') (notedBy (model prog w) A env fun e s' => R (.error e) s') s₁) (notedBy (model prog w) A env fun e s' => R (.error e) s') s)
    (n : Nat) (h : I n s) : codeAny (model prog w) A (.compLoop (.ListComp elt [⟨target, iter, ifs, 0⟩] scope pos) 0 it acc env) R s := by
  refine codeAny_loop rfl I (fun n s hI => ?_) n h
  show wpAny _ A ((compTurn (.ListComp elt [⟨target, iter, ifs, 0⟩] scope pos) 0 it acc env).onRaise (fun x => do noteFrame x env; theTreesLotGoes x)) _ _ s
  refine wpAny_noted ?_
  rw [compTurn_list]
  refine wpAny_bind (wpAny_standAt (wpAny_bind (wpAny_mono (turn n s hI) (fun r s₁ h₁ => ?_) fun _ _ h' => h')))
  cases r with
  | none => exact wpAny_pure h₁
  | some v =>
    refine wpAny_bind (wpAny_mono h₁ (fun _ s₁' h₁' => ?_) fun _ _ h' => h')
    refine wpAny_bind (wpAny_mono h₁' (fun _ s₂ h₂ => wpAny_bind (wpAny_mono h₂ (fun ok s₃ h₃ => ?_) fun _ _ h' => h')) fun _ _ h' => h')
    cases ok with
    | false => exact wpAny_pure ⟨rfl, h₃⟩
    | true =>
      exact wpAny_bind (wpAny_bind (wpAny_mono h₃ (fun x s₄ h₄ => wpAny_bind (wpAny_mono h₄ (fun _ s₅ h₅ => wpAny_pure (wpAny_pure ⟨rfl, h₅⟩)) fun _ _ h' => h')) fun _ _ h' => h'))
end Mine
end
section
open PySem PySem.W PyProof.Rows PySem.Calls PySem.SeqAt
set_option maxRecDepth 100000
set_option linter.unusedVariables false
set_option autoImplicit false
namespace Mine

theorem St.adopt {T : Tab} {ρ : List Addr} {σ : Store} {h : Heap} (S : St T ρ σ h) {D : Addr} {vals : List Value} {n : Nat} {l : List V} (g : h.get? D = some (W.listOf vals.toArray n)) (hD : D ∉ ρ) (r : RvL T ρ h vals l) : St T (ρ ++ [D]) (σ ++ [l]) h := by
  have up : ∀ a vs m, h.get? a = some { cls := .type "tuple", data := .seq vs m } → h.get? a = some { cls := .type "tuple", data := .seq vs m } := fun a vs m e => e
  refine ⟨by simp [S.len], ?_, fun k a l' h1 h2 => ?_⟩
  · rw [List.nodup_append]
    exact ⟨S.nd, by simp, fun a ha b hb e => by rw [List.mem_singleton.mp hb] at e; exact hD (e ▸ ha)⟩
  · by_cases hk : k < ρ.length
    · rw [List.getElem?_append_left hk] at h1
      rw [List.getElem?_append_left (S.len ▸ hk)] at h2
      obtain ⟨vs, m, gg, r'⟩ := S.lst k a l' h1 h2
      exact ⟨vs, m, gg, r'.mono ⟨_, rfl⟩ up⟩
    · have hk' : k = ρ.length := by
        have := (List.getElem?_eq_some_iff.mp h1).1
        rw [List.length_append, List.length_singleton] at this
        omega
      subst hk'
      rw [List.getElem?_append_right (Nat.le_refl _)] at h1
      rw [S.len, List.getElem?_append_right (Nat.le_refl _)] at h2
      simp at h1 h2
      subst h1 h2
      exact ⟨vals, n, g, r.mono ⟨_, rfl⟩ up⟩

/-- an object apart: no namespace, no cell, no tuple -/
noncomputable def Apart (h : Heap) (a : Addr) : Prop := ∃ o, h.get? a = some o ∧ (∀ es ep, o.data ≠ .dict es ep) ∧ (∀ v, o.data ≠ .cell v) ∧ (∀ vals n, o ≠ { cls := .type "tuple", data := .seq vals n })
theorem Apart.noTup {h : Heap} {a : Addr} (x : Apart h a) : ∀ vals n, h.get? a ≠ some { cls := .type "tuple", data := .seq vals n } := by
  obtain ⟨o, ho, _, _, h3⟩ := x
  intro vals n q
  rw [ho] at q
  exact h3 _ _ (Option.some.inj q)

section
variable {c : Cx} {A : Around} {ρ ρ' ρ₁ : List Addr} {h₁ : Heap} {σ : Store} {s : Shared} {sc sc' : Sc} {env : PySem.Env} {γ γ' : Env1}

theorem Ok.extBut {h h' : Heap} {a : Addr} (O : Ok c ρ σ h) (hs : Heap.ExtBut a h h') (ha : a ∉ ρ) (x : Apart h a) (h0 : c.h₀.get? a = none) : Ok c ρ σ h' :=
  ⟨O.st.but hs ha x.noTup, fun b o e => hs b o (fun q => by rw [q, h0] at e; cases e) (O.base b o e), O.off⟩
theorem En.extBut {h h' : Heap} {a : Addr} (X : En c sc env γ ρ h) (hs : Heap.ExtBut a h h') (x : Apart h a) : En c sc env γ ρ h' := by
  obtain ⟨o, ho, h1, h2, h3⟩ := x
  have nL : ∀ {L m}, h.Ns L m → L ≠ a := fun {L m} hn z => by
    subst z
    obtain ⟨o', es, ep, ho', hd, _⟩ := hn
    rw [ho] at ho'; cases ho'
    exact h1 _ _ hd
  have nC : ∀ {b v}, h.IsCell b v → h'.IsCell b v := fun {b v} hc => by
    obtain ⟨o', ho', hd⟩ := hc
    refine ⟨o', hs b o' (fun z => ?_) ho', hd⟩
    subst z
    rw [ho] at ho'; cases ho'
    exact h2 _ hd
  have up : ∀ {y w}, Rv c.T ρ h y w → Rv c.T ρ h' y w := fun r => r.mono ⟨[], by simp⟩ fun b vals n e => hs b _ (fun z => by
    subst z
    rw [ho] at e
    exact h3 _ _ (Option.some.inj e)) e
  refine ⟨X.kind, X.glo, X.bui, X.loc, fun x hx => ?_, X.glb, X.apart, let ⟨m, hm⟩ := X.ns; ⟨m, hm.extBut hs (nL hm)⟩, fun x v hx => ?_⟩
  · obtain ⟨k1, k2, b, k3, v, k4⟩ := X.cel x hx
    exact ⟨k1, k2, b, k3, v, nC k4⟩
  · obtain ⟨val, r, k⟩ := X.vars x v hx
    refine ⟨val, up r, ?_⟩
    rcases k with ⟨k3, m, k4, k5⟩ | ⟨k3, b, k4, k5⟩
    · exact .inl ⟨k3, m, k4.extBut hs (nL k4), k5⟩
    · exact .inr ⟨k3, b, k4, nC k5⟩
theorem ItAt.apart {T : Tab} {it : Addr} {src : Src} {i : Nat} {h : Heap} (I : ItAt T it src i ρ h) : Apart h it := by
  obtain ⟨o, vs, h1, h2⟩ := I.obj
  exact ⟨o, h1, fun es ep q => (by rw [q] at h2; cases h2), fun v q => (by rw [q] at h2; cases h2), fun vals n q => (by rw [q] at h2; cases h2)⟩
theorem list_apart {h : Heap} {D : Addr} {its : Array Value} {n : Nat} (g : h.get? D = some (W.listOf its n)) : Apart h D :=
  ⟨_, g, fun es ep q => (by cases q), fun v q => (by cases q), fun vals n q => by injection q with q; injection q with q; simp at q⟩
theorem Apart.one {h : Heap} {a : Addr} (x : Apart h a) : NoTup [a] h := fun b hb vals n => by
  rw [List.mem_singleton.mp hb]; exact x.noTup vals n

theorem lkN_lookup (T : Tab) : ∀ {nms : List (Nat × NameKind)} {x : Nat}, (∀ q ∈ nms, q.1 < T.n) → x < T.n → (nms.map fun q => (T.nm q.1, q.2)).lookup (T.nm x) = lkN x nms
  | [], x, _, _ => rfl
  | (y, k) :: r, x, H, hx => by
    have ih := lkN_lookup T (nms := r) (x := x) (fun q hq => H q (.tail _ hq)) hx
    rw [List.map_cons, List.lookup_cons]
    unfold lkN
    rw [nm_beq T hx (H _ (.head _))]
    cases Nat.beq x y with
    | true => rfl
    | false => exact ih
theorem lookup_relabel {env : PySem.Env} : ∀ (names : List (Str × NameKind)) (x : Str),
    (names.map fun (n, k) => if (k == NameKind.free && env.scope.kind == .function && env.kindOf n == some .cell) then (n, NameKind.cell) else (n, k)).lookup x = (names.lookup x).map fun k => if (k == NameKind.free && env.scope.kind == .function && env.kindOf x == some .cell) then .cell else k
  | [], _ => rfl
  | (n, k) :: r, x => by
    have ih := lookup_relabel (env := env) r x
    show List.lookup x ((if (k == NameKind.free && env.scope.kind == .function && env.kindOf n == some .cell) = true then (n, NameKind.cell) else (n, k)) :: _) = _
    cases hx : x == n with
    | true =>
      have := beq_iff_eq.mp hx
      subst this
      by_cases hc : (k == NameKind.free && env.scope.kind == .function && env.kindOf x == some .cell) = true
      · rw [if_pos hc]
        simp only [List.lookup_cons, hx]
        simp only [Option.map_some, hc, if_true]
      · rw [if_neg hc]
        simp only [List.lookup_cons, hx]
        simp only [Option.map_some]
        rw [if_neg hc]
    | false =>
      by_cases hc : (k == NameKind.free && env.scope.kind == .function && env.kindOf n == some .cell) = true
      · rw [if_pos hc]; simp only [List.lookup_cons, hx]; exact ih
      · rw [if_neg hc]; simp only [List.lookup_cons, hx]; exact ih

/-- the cells that a comprehension sees -/
noncomputable def closL (env : PySem.Env) : List (Str × NameKind) → List (Str × Addr) → List (Str × Addr)
  | [], acc => acc
  | (n, k) :: r, acc => if k == .free then closL env r ((n, (env.cells.lookup n).getD 0) :: acc) else closL env r acc
theorem clos_ok {env : PySem.Env} (f : Str × NameKind → List (Str × Addr) → Sem (ForInStep (List (Str × Addr)))) (hf : ∀ n k cs, f (n, k) cs = if k == .free then (do let a ← cellOf env n; pure (.yield ((n, a) :: cs))) else pure (.yield cs)) :
    ∀ (names : List (Str × NameKind)) (acc : List (Str × Addr)), (∀ q ∈ names, q.2 = .free → (env.cells.lookup q.1).isSome = true) → forIn names acc f = pure (closL env names acc)
  | [], acc, _ => rfl
  | (n, k) :: r, acc, H => by
    have ih := fun acc => clos_ok f hf r acc fun q hq => H q (.tail _ hq)
    rw [List.forIn_cons, hf]
    unfold closL
    by_cases hk : (k == NameKind.free) = true
    · rw [if_pos hk, if_pos hk]
      obtain ⟨a, ha⟩ := Option.isSome_iff_exists.mp (H (n, k) (.head _) (by simpa using hk))
      have hc : cellOf env n = pure a := by unfold cellOf; rw [ha]
      rw [hc]
      simp only [pure_bind, ha, Option.getD_some]
      exact ih _
    · rw [if_neg hk, if_neg hk]
      simp only [pure_bind]
      exact ih _
theorem closureFor_ok {env : PySem.Env} {scope : Scope} (H : ∀ q ∈ scope.names, q.2 = .free → (env.cells.lookup q.1).isSome = true) : closureFor scope env = pure (closL env scope.names []) := by
  simp only [closureFor]
  rw [clos_ok _ (fun n k cs => by
    by_cases hk : (k == NameKind.free) = true
    · simp only [hk, if_true]
    · simp only [hk]) scope.names [] H]
  rfl
theorem closL_acc {env : PySem.Env} : ∀ (names : List (Str × NameKind)) (acc : List (Str × Addr)) (x : Str), (∀ q ∈ names, q.1 ≠ x) → (closL env names acc).lookup x = acc.lookup x
  | [], _, _, _ => rfl
  | (n, k) :: r, acc, x, H => by
    unfold closL
    have hn : (x == n) = false := beq_eq_false_iff_ne.mpr fun q => H (n, k) (.head _) q.symm
    split
    · rw [closL_acc r _ x fun q hq => H q (.tail _ hq), List.lookup_cons, hn]
    · exact closL_acc r _ x fun q hq => H q (.tail _ hq)
theorem closL_look {env : PySem.Env} : ∀ (names : List (Str × NameKind)) (acc : List (Str × Addr)) (x : Str) (a : Addr), names.Pairwise (fun p q => p.1 ≠ q.1) → (x, .free) ∈ names → env.cells.lookup x = some a → (closL env names acc).lookup x = some a
  | [], _, _, _, _, h, _ => by cases h
  | (n, k) :: r, acc, x, a, P, h, e => by
    obtain ⟨P1, P2⟩ := List.pairwise_cons.mp P
    unfold closL
    rcases List.mem_cons.mp h with h | h
    · cases h
      rw [if_pos (by decide), closL_acc r _ n fun q hq z => P1 q hq z.symm, List.lookup_cons]
      simp [e]
    · split
      · exact closL_look r _ x a P2 h e
      · exact closL_look r _ x a P2 h e

theorem memN_iff {x : Nat} : ∀ {l : List Nat}, memN x l = true ↔ x ∈ l
  | [] => by simp [memN]
  | y :: r => by
    unfold memN
    rw [Bool.or_eq_true, memN_iff, List.mem_cons, beqN]
theorem distinct_pw : ∀ {l : List Nat}, distinct l = true → l.Pairwise (· ≠ ·)
  | [], _ => .nil
  | x :: r, h => by
    unfold distinct at h
    rw [Bool.and_eq_true] at h
    refine List.pairwise_cons.mpr ⟨fun y hy z => ?_, distinct_pw h.2⟩
    subst z
    have := memN_iff.mpr hy
    rw [this] at h
    exact absurd h.1 (by decide)
theorem lkN_mem {x : Nat} {k : NameKind} : ∀ {nms : List (Nat × NameKind)}, lkN x nms = some k → (x, k) ∈ nms
  | (y, k') :: r, h => by
    unfold lkN at h
    split at h
    · rename_i hb
      cases h
      rw [beqN.mp hb]
      exact .head _
    · exact .tail _ (lkN_mem h)

structure CompWf (c : Cx) (sc : Sc) (nms : List (Nat × NameKind)) (csc : Sc) (free : List Nat) : Prop where
  low : ∀ q ∈ nms, q.1 < c.T.n
  kinds : ∀ q ∈ nms, q.2 = .free ∨ q.2 = .local ∨ q.2 = .globalImplicit
  frees : ∀ q ∈ nms, q.2 = .free → q.1 ∈ sc.cel
  dis : (nms.map fun q => q.1).Pairwise (· ≠ ·)
  loc : ∀ x ∈ csc.loc, lkN x nms = some .local
  cel : ∀ x ∈ csc.cel, lkN x nms = some .free
  glb : ∀ x ∈ csc.glb, lkN x nms = some .globalImplicit
  free : ∀ x ∈ free, x ∈ csc.cel
theorem compWf_ok {n : Nat} {C : Cfg} (S : Snd c n C) {nms : List (Nat × NameKind)} {csc : Sc} {free : List Nat} (h : compWf C.n sc nms csc free = true) : CompWf c sc nms csc free := by
  unfold compWf at h
  simp only [Bool.and_eq_true] at h
  obtain ⟨⟨⟨⟨⟨h1, h2⟩, h3⟩, h4⟩, h5⟩, h6⟩ := h
  have hk : ∀ q ∈ nms, q.1 < c.T.n ∧ (q.2 = .free ∨ q.2 = .local ∨ q.2 = .globalImplicit) ∧ (q.2 = .free → q.1 ∈ sc.cel) := fun q hq => by
    have := List.all_eq_true.mp h1 q hq
    rw [Bool.and_eq_true, Bool.and_eq_true] at this
    obtain ⟨⟨a, b⟩, d⟩ := this
    refine ⟨S.num ▸ Nat.le_of_ble_eq_true a, ?_, fun e => ?_⟩
    · obtain ⟨q1, q2⟩ := q
      cases q2 <;> first | exact .inl rfl | exact .inr (.inl rfl) | exact .inr (.inr rfl) | (cases b)
    · rw [e] at d
      exact List.contains_iff_mem.mp (by simpa [isFree] using d)
  refine ⟨fun q hq => (hk q hq).1, fun q hq => (hk q hq).2.1, fun q hq => (hk q hq).2.2, distinct_pw h2, fun x hx => ?_, fun x hx => ?_, fun x hx => ?_, fun x hx => List.contains_iff_mem.mp (List.all_eq_true.mp h6 x hx)⟩
  · have := List.all_eq_true.mp h3 x hx
    revert this
    cases lkN x nms with
    | none => intro z; cases z
    | some k => intro z; cases k <;> first | rfl | (cases z)
  · have := List.all_eq_true.mp h4 x hx
    revert this
    cases lkN x nms with
    | none => intro z; cases z
    | some k => intro z; cases k <;> first | rfl | (cases z)
  · have := List.all_eq_true.mp h5 x hx
    revert this
    cases lkN x nms with
    | none => intro z; cases z
    | some k => intro z; cases k <;> first | rfl | (cases z)

theorem CompWf.pw {nms : List (Nat × NameKind)} {csc : Sc} {free : List Nat} (w : CompWf c sc nms csc free) : (dScope c.T nms).names.Pairwise (fun p q => p.1 ≠ q.1) := by
  show (nms.map fun q => (c.T.nm q.1, q.2)).Pairwise _
  rw [List.pairwise_map]
  have := w.dis
  rw [List.pairwise_map] at this
  refine this.imp_of_mem fun {p q} hp hq hne z => hne (c.T.inj _ _ (w.low p hp) (w.low q hq) z)
theorem pw_lookup {α : Type} : ∀ {l : List (Str × α)}, l.Pairwise (fun p q => p.1 ≠ q.1) → ∀ q ∈ l, l.lookup q.1 = some q.2
  | [], _, _, h => by cases h
  | (n, k) :: r, P, q, h => by
    obtain ⟨P1, P2⟩ := List.pairwise_cons.mp P
    rcases List.mem_cons.mp h with h | h
    · subst h; simp
    · have : (q.1 == n) = false := beq_eq_false_iff_ne.mpr fun z => P1 q h z.symm
      rw [List.lookup_cons, this]
      exact pw_lookup P2 q h
theorem CompWf.clos {nms : List (Nat × NameKind)} {csc : Sc} {free : List Nat} {h : Heap} (w : CompWf c sc nms csc free) (X : En c sc env γ ρ h) : closureFor (dScope c.T nms) env = pure (closL env (dScope c.T nms).names []) := by
  refine closureFor_ok fun q hq hf => ?_
  obtain ⟨p, hp, rfl⟩ := List.mem_map.mp hq
  obtain ⟨_, _, a, ha, _⟩ := X.cel p.1 (w.frees p hp hf)
  rw [ha]; rfl

/-- the comprehension's own frame -/
theorem CompWf.en {nms : List (Nat × NameKind)} {csc : Sc} {free : List Nat} {h : Heap} {C : Addr} {m : Str → Option Value} (w : CompWf c sc nms csc free) (X : En c sc env γ ρ h) (hn : h.Ns C m) :
    En c csc (compEnvC (dScope c.T nms) (closL env (dScope c.T nms).names []) C env) (γ.filter fun q => free.contains q.1) ρ h := by
  have low : ∀ {x k}, lkN x nms = some k → x < c.T.n := fun {x k} e => w.low _ (lkN_mem e)
  have kind : ∀ {x k}, lkN x nms = some k → (compEnvC (dScope c.T nms) (closL env (dScope c.T nms).names []) C env).kindOf (c.T.nm x) = some (if (k == NameKind.free && env.scope.kind == .function && env.kindOf (c.T.nm x) == some .cell) then .cell else k) := fun {x k} e => by
    show ((dScope c.T nms).names.map fun (n, k) => if (k == NameKind.free && env.scope.kind == .function && env.kindOf n == some .cell) then (n, NameKind.cell) else (n, k)).lookup (c.T.nm x) = _
    rw [lookup_relabel]
    have : (dScope c.T nms).names.lookup (c.T.nm x) = some k := (lkN_lookup c.T w.low (low e)).trans e
    rw [this]; rfl
  have cells : ∀ {x a}, lkN x nms = some .free → env.cells.lookup (c.T.nm x) = some a → (closL env (dScope c.T nms).names []).lookup (c.T.nm x) = some a := fun {x a} e ha =>
    closL_look _ _ _ _ w.pw (List.mem_map.mpr ⟨_, lkN_mem e, rfl⟩) ha
  have celOf : ∀ x ∈ csc.cel, x ∈ sc.cel := fun x hx => w.frees _ (lkN_mem (w.cel x hx)) rfl
  refine ⟨rfl, X.glo, X.bui, fun x hx => ⟨low (w.loc x hx), by rw [kind (w.loc x hx)]; rfl⟩, fun x hx => ?_, fun x hx => ⟨low (w.glb x hx), by rw [kind (w.glb x hx)]; rfl⟩, fun x hx y hy a ha hb => ?_, ⟨m, hn⟩, fun x v hx => ?_⟩
  · obtain ⟨k1, k2, a, k3, v, k4⟩ := X.cel x (celOf x hx)
    refine ⟨k1, ?_, a, cells (w.cel x hx) k3, v, k4⟩
    rw [kind (w.cel x hx), k2, X.kind]; rfl
  · obtain ⟨_, _, a', k3, _⟩ := X.cel x (celOf x hx)
    obtain ⟨_, _, b', k3', _⟩ := X.cel y (celOf y hy)
    have e1 := cells (w.cel x hx) k3
    have e2 := cells (w.cel y hy) k3'
    have ha' : (closL env (dScope c.T nms).names []).lookup (c.T.nm x) = some a := ha
    have hb' : (closL env (dScope c.T nms).names []).lookup (c.T.nm y) = some a := hb
    rw [e1] at ha'; cases ha'
    rw [e2] at hb'; cases hb'
    exact X.apart x (celOf x hx) y (celOf y hy) _ k3 k3'
  · have hx' : γ.lookup x = some v ∧ x ∈ free := by
      clear X
      induction γ with
      | nil => cases hx
      | cons q r ih =>
        obtain ⟨y, u⟩ := q
        rw [List.filter_cons] at hx
        by_cases hf : free.contains y = true
        · rw [if_pos hf, List.lookup_cons] at hx
          rw [List.lookup_cons]
          cases hb : x == y with
          | true =>
            rw [hb] at hx
            have := beq_iff_eq.mp hb
            subst this
            exact ⟨hx, List.contains_iff_mem.mp hf⟩
          | false =>
            rw [hb] at hx
            exact ih hx
        · rw [if_neg hf] at hx
          obtain ⟨a, b⟩ := ih hx
          refine ⟨?_, b⟩
          rw [List.lookup_cons]
          have : (x == y) = false := beq_eq_false_iff_ne.mpr fun z => hf (List.contains_iff_mem.mpr (z ▸ b))
          rw [this]
          exact a
    have hc := w.free x hx'.2
    obtain ⟨val, r, k⟩ := X.vars x v hx'.1
    obtain ⟨k1, k2, a, k3, _⟩ := X.cel x (celOf x hc)
    refine ⟨val, r, .inr ⟨hc, ?_⟩⟩
    rcases k with ⟨h3, m', h4, h5⟩ | ⟨h3, b, h4, h5⟩
    · have := (X.loc x h3).2
      rw [this] at k2; cases k2
    · exact ⟨b, cells (w.cel x hc) h4, h5⟩
end
end Mine
end
section
open PySem PySem.W PyProof.Rows PySem.Calls PySem.SeqAt
set_option maxRecDepth 100000
set_option linter.unusedVariables false
set_option autoImplicit false
namespace Mine
section
variable {c : Cx} {n : Nat} {C : Cfg}

noncomputable def ifsOf (T : Tab) : IEo → List Expr
  | .no => []
  | .yes c => [dE T c]
/-- what one turn of a comprehension computes -/
noncomputable def compBody (C : Cfg) (csc : Sc) (elt : IE) (t : Tgt) (cond : IEo) (γf : Env1) (x : V) (σ : Store) : Option (Option V × Store) :=
  (bindT ⟨csc.loc, [], csc.glb⟩ t x γf).bind fun γ' => match cond with
    | .no => (evE C csc elt γ' σ).map fun r => (some r.1, r.2)
    | .yes c => (evE C csc c γ' σ).bind fun b => match truth b.1 with
      | some true => (evE C csc elt γ' b.2).map fun r => (some r.1, r.2)
      | some false => some (none, b.2)
      | none => none
theorem evE_comp {sc : Sc} {elt : IE} {t : Tgt} {it : IE} {cond : IEo} {nms : List (Nat × NameKind)} {csc : Sc} {free : List Nat} {p : Pos} {γ : Env1} {σ : Store} {r : V × Store} (e : evE C sc (.comp elt t it cond nms csc free p) γ σ = some r) :
    (compWf C.n sc nms csc free = true ∧ (C.mm || oneT t) = true) ∧ ∃ a src q, srcOk C.mm src = true ∧ evE C sc it γ σ = some a ∧ srcOf a.1 = some src ∧ loopC (compBody C csc elt t cond (γ.filter fun q => free.contains q.1)) src FU 0 a.2 = some q ∧ mkLst q.1 q.2 = some r := by
  cases cond with
  | no =>
    rw [evE_comp_no] at e
    split at e
    · rename_i hw
      obtain ⟨a, ha, e⟩ := Option.bind_eq_some_iff.mp e
      obtain ⟨src, hs, e⟩ := Option.bind_eq_some_iff.mp e
      split at e
      · rename_i hso
        obtain ⟨q, hq, e⟩ := Option.bind_eq_some_iff.mp e
        exact ⟨Bool.and_eq_true_iff.mp hw, a, src, q, hso, ha, hs, hq, e⟩
      · cases e
    · cases e
  | yes cc =>
    rw [evE_comp_yes] at e
    split at e
    · rename_i hw
      obtain ⟨a, ha, e⟩ := Option.bind_eq_some_iff.mp e
      obtain ⟨src, hs, e⟩ := Option.bind_eq_some_iff.mp e
      split at e
      · rename_i hso
        obtain ⟨q, hq, e⟩ := Option.bind_eq_some_iff.mp e
        exact ⟨Bool.and_eq_true_iff.mp hw, a, src, q, hso, ha, hs, hq, e⟩
      · cases e
    · cases e

theorem ns_apart {h : Heap} {L a : Addr} {m : Str → Option Value} (n : h.Ns L m) (x : Apart h a) : L ≠ a := by
  rintro rfl
  obtain ⟨o', es, ep, ho', hd, _⟩ := n
  obtain ⟨o, ho, h1, _⟩ := x
  rw [ho] at ho'; cases ho'
  exact h1 _ _ hd

theorem store_keep {sc : Sc} {x y : Nat} {v : V} {γ γ' : Env1} (e : store ⟨sc.loc, [], sc.glb⟩ x v γ = some γ') (hy : y ∉ sc.loc) : γ'.lookup y = γ.lookup y := by
  unfold store at e
  split at e
  · rename_i hx
    cases e
    have hx' : x ∈ sc.loc := by
      rcases Bool.or_eq_true_iff.mp hx with h | h
      · exact List.contains_iff_mem.mp h
      · exact absurd (List.contains_iff_mem.mp h) (by simp)
    have hne : x ≠ y := fun z => hy (z ▸ hx')
    rw [List.lookup_cons]
    have : (y == x) = false := beq_eq_false_iff_ne.mpr (Ne.symm hne)
    rw [this]
    exact lookup_filter hne γ
  · cases e
theorem storeL_keep {sc : Sc} {y : Nat} (hy : y ∉ sc.loc) : ∀ {xs : List (Nat × Pos)} {l : List V} {γ γ' : Env1}, storeL ⟨sc.loc, [], sc.glb⟩ xs l γ = some γ' → γ'.lookup y = γ.lookup y
  | [], [], _, _, e => by cases e; rfl
  | [], _ :: _, _, _, e => by cases e
  | _ :: _, [], _, _, e => by cases e
  | x :: xs, v :: l, γ, γ', e => by
    obtain ⟨γ₁, e1, e2⟩ := Option.bind_eq_some_iff.mp e
    rw [storeL_keep hy e2, store_keep e1 hy]
theorem bindT_keep {sc : Sc} {t : Tgt} {y : Nat} {v : V} {γ γ' : Env1} (e : bindT ⟨sc.loc, [], sc.glb⟩ t v γ = some γ') (hy : y ∉ sc.loc) : γ'.lookup y = γ.lookup y := by
  unfold bindT at e
  split at e
  · exact store_keep e hy
  · exact storeL_keep hy e
  · cases e
theorem src_handled {A : Around} {src : Src} (hR : Room c C.mm A n) (h : srcOk C.mm src = true) : A.handled = none ∨ ∃ k, src = .lst k := by
  cases src with
  | lst k => exact .inr ⟨k, rfl⟩
  | tup l => exact .inl (hR.handled h)
  | rng m => exact .inl (hR.handled h)
/-- where a comprehension's loop stands -/
inductive CInv (c : Cx) (s : Shared) (ρ : List Addr) (csc : Sc) (γf : Env1) (src : Src) (I D : Addr) (cenv : PySem.Env) (l : List V) (σ₂ : Store) (bd : V → Store → Option (Option V × Store)) (k : Nat) (s' : Shared) : Prop
  | mk (i : Nat) (σ : Store) (acc rest : List V) (ρ' : List Addr) (h' : Heap) (tk : Nat) (xs : List Value) (nD : Nat) (q0 : s' = { s with heap := h', toks := tk }) (q1 : Grow ρ s.heap ρ' h') (q2 : Ok c ρ' σ h') (q3 : ItAt c.T I src i ρ' h') (q4 : h'.get? D = some (W.listOf xs.toArray nD)) (q5 : D ∉ ρ') (q6 : RvL c.T ρ' h' xs acc) (q7 : En c csc cenv γf ρ' h')
    (q8 : loopC bd src k i σ = some (rest, σ₂)) (q9 : l = acc ++ rest)

theorem comp_loop {A : Around} {s : Shared} {ρ : List Addr} {elt : IE} {t : Tgt} {cond : IEo} {csc : Sc} {γf : Env1} {src : Src} {iter : Expr} {scope : Scope} {pos : Pos} {I D : Addr} {cenv : PySem.Env} {l : List V} {σ₂ : Store} {R : Result → Shared → Prop}
    (hR : Room c C.mm A n) (hone : (C.mm || oneT t) = true) (hsrc : srcOk C.mm src = true) (F : FrOk c A s.heap) (hb : ∀ b o, c.h₀.get? b = some o → s.heap.get? b = some o) (Ge : GE c n C elt) (Gc : ∀ cc, cond = .yes cc → GE c n C cc) (hI : s.heap.get? I = none) (hD : s.heap.get? D = none) (hC : s.heap.get? cenv.locals = none)
    (hID : I ≠ D) (hl : l.length ≤ 1000000) (S₀ : ∃ σ, St c.T ρ σ s.heap) (hfree : ∀ y w, γf.lookup y = some w → y ∉ csc.loc)
    (fin : ∀ ρ' h' tk m, Grow ρ s.heap (ρ' ++ [D]) h' → Ok c (ρ' ++ [D]) (σ₂ ++ [l]) h' → ρ'.length = σ₂.length → h'.Ns cenv.locals m → R (.ok .next) { s with heap := h', toks := tk }) :
    ∀ (k : Nat) (i : Nat) (σ : Store) (acc rest : List V) (ρ' : List Addr) (h' : Heap) (tk : Nat) (xs : List Value) (nD : Nat), Grow ρ s.heap ρ' h' → Ok c ρ' σ h' → ItAt c.T I src i ρ' h' → h'.get? D = some (W.listOf xs.toArray nD) → D ∉ ρ' → RvL c.T ρ' h' xs acc → En c csc cenv γf ρ' h' →
      loopC (compBody C csc elt t cond γf) src k i σ = some (rest, σ₂) → l = acc ++ rest →
      codeAny (model c.prog c.w) A (.compLoop (.ListComp (dE c.T elt) [⟨dT c.T t, iter, ifsOf c.T cond, 0⟩] scope pos) 0 (.ref I) (.ref D) cenv) R { s with heap := h', toks := tk } := by
  intro k i σ acc rest ρ' h' tk xs nD g o it hd hD' rx en e hlr
  obtain ⟨σ₀, S₀⟩ := S₀
  refine compLoop_any (CInv c s ρ csc γf src I D cenv l σ₂ (compBody C csc elt t cond γf)) ?_ k ⟨i, σ, acc, rest, ρ', h', tk, xs, nD, rfl, g, o, it, hd, hD', rx, en, e, hlr⟩
  clear e hlr en rx hD' hd it o g nD xs tk h' ρ' rest acc σ i k
  rintro k s' ⟨i, σ, acc, rest, ρ', h', tk, xs, nD, rfl, g, o, it, hd, hD', rx, en, e, hlr⟩
  cases k with
  | zero => cases e
  | succ k =>
  rw [loopC_succ] at e
  cases hs : srcAt src σ i with
  | none => rw [hs] at e; cases e
  | some r =>
  rw [hs] at e
  have hI0 : c.h₀.get? I = none := by
    cases q : c.h₀.get? I with
    | none => rfl
    | some o => rw [hb I o q] at hI; cases hI
  have hD0 : c.h₀.get? D = none := by
    cases q : c.h₀.get? D with
    | none => rfl
    | some o => rw [hb D o q] at hD; cases hD
  have hoff := it.off o.st
  refine next_ok (s := { s with heap := h', toks := tk }) hR.ends (src_handled hR hsrc) o it hs (fun hr h₁ hx => ?_) (fun v hr x h₁ tk₁ rv it₁ hsb => ?_)
  · -- the end
    subst hr
    cases e
    have g₁ : Grow ρ s.heap ρ' h₁ := g.thenGb (Gb.ofExtBut (S := [I]) hx (.head _)) fun a ha => by rw [List.mem_singleton.mp ha]; exact hI
    have o₁ := o.extBut hx hoff it.apart hI0
    have hd₁ := hx D _ (Ne.symm hID) hd
    have rx₁ : RvL c.T ρ' h₁ xs acc := rx.mono ⟨[], by simp⟩ fun b vs m e => hx b _ (fun z => it.noTup _ _ (z ▸ e)) e
    obtain ⟨m, hm⟩ := en.ns
    have hn := hm.extBut hx (ns_apart hm it.apart)
    rw [List.append_nil] at hlr
    subst hlr
    have gD : Grow ρ s.heap (ρ' ++ [D]) h₁ := by
      obtain ⟨m', e', hm'⟩ := g₁.more
      refine ⟨⟨m' ++ [D], by rw [e', List.append_assoc], fun a ha => ?_⟩, g₁.keep, g₁.dom⟩
      rcases List.mem_append.mp ha with ha | ha
      · exact hm' a ha
      · rw [List.mem_singleton.mp ha]; exact hD
    refine fin ρ' h₁ tk m gD ⟨o₁.st.adopt hd₁ hD' rx₁, o₁.base, fun a ha => ?_⟩ o₁.st.len hn
    rcases List.mem_append.mp ha with ha | ha
    · exact o₁.off a ha
    · rw [List.mem_singleton.mp ha]; exact hD0
  · subst hr
    obtain ⟨r, hr, e⟩ := Option.bind_eq_some_iff.mp e
    obtain ⟨q, hq, eq⟩ := Option.map_eq_some_iff.mp e
    have hx := hsb.extBut
    have g₁ : Grow ρ s.heap ρ' h₁ := g.thenGb (Gb.ofExtBut (S := [I]) hx (.head _)) fun a ha => by rw [List.mem_singleton.mp ha]; exact hI
    have o₁ := o.extBut hx hoff it.apart hI0
    have hd₁ := hx D _ (Ne.symm hID) hd
    have upR : ∀ {y w}, Rv c.T ρ' h' y w → Rv c.T ρ' h₁ y w := fun r => r.mono ⟨[], by simp⟩ fun b vs m e => hx b _ (fun z => it.noTup _ _ (z ▸ e)) e
    have rx₁ : RvL c.T ρ' h₁ xs acc := rx.mono ⟨[], by simp⟩ fun b vs m e => hx b _ (fun z => it.noTup _ _ (z ▸ e)) e
    have en₁ := en.extBut hx it.apart
    refine owned_ok (s := { s with heap := h₁, toks := tk₁ }) it₁ ?_
    unfold compBody at hr
    obtain ⟨γ', hγ, hr⟩ := Option.bind_eq_some_iff.mp hr
    have WW : Own c csc ⟨csc.loc, [], csc.glb⟩ cenv s.heap := ⟨fun x h => h, fun x h => (by cases h), hC, fun x h => (by cases h)⟩
    refine bindT_ok (s := { s with heap := h₁, toks := tk₁ }) (ρ₁ := ρ) (h₁ := s.heap) (fun hb => hR.handled (by rw [hb, Bool.or_false] at hone; exact hone)) o₁ en₁ g₁ hb WW (upR rv) hγ fun h₂ tk₂ o₂ en₂ g₂ k₂ _ => ?_
    have kp : ∀ {a}, Apart h₁ a → ∀ ob, h₁.get? a = some ob → h₂.get? a = some ob := fun {a} ap ob hob => by
      obtain ⟨o', ho', p1, p2, p3⟩ := ap
      rw [hob] at ho'; cases ho'
      exact k₂ a _ hob p1 p2
    have hd₂ := kp (list_apart hd₁) _ hd₁
    have rx₂ : RvL c.T ρ' h₂ xs acc := rx₁.mono ⟨[], by simp⟩ fun b vs m e => k₂ b _ e (fun es ep q => by cases q) fun v q => by cases q
    have it₂ : ItAt c.T I src (i + 1) ρ' h₂ := by
      have ap := it₁.apart
      unfold ItAt at it₁ ⊢
      split at it₁
      · obtain ⟨tt, vals, n', ⟨ob, h1, h2, h3⟩, h4, h5⟩ := it₁
        exact ⟨tt, vals, n', ⟨ob, kp ap _ h1, h2, h3⟩, k₂ _ _ h4 (fun es ep q => by cases q) (fun v q => by cases q), h5.mono ⟨[], by simp⟩ fun b vs m e => k₂ b _ e (fun es ep q => by cases q) fun v q => by cases q⟩
      · obtain ⟨a, h0, ob, h1, h2, h3⟩ := it₁
        exact ⟨a, h0, ob, kp ap _ h1, h2, h3⟩
      · exact kp ap _ it₁
    -- back to the names ahead of the turn
    have back : ∀ {ρ'' : List Addr} {h''}, En c csc cenv γ' ρ'' h'' → En c csc cenv γf ρ'' h'' := fun X => X.look fun y w hy => by
      rw [bindT_keep hγ (hfree y w hy)]
      exact hy
    -- the element
    have tail : ∀ (σ₃ : Store) (ρ₃ : List Addr) (h₃ : Heap) (tk₃ : Nat), Grow ρ' h₂ ρ₃ h₃ → Ok c ρ₃ σ₃ h₃ → ∀ y, evE C csc elt γ' σ₃ = some (y, r.2) → r.1 = some y →
        wpAny (model c.prog c.w) A (eval (dE c.T elt) cenv) (fun x s₄ => wpAny (model c.prog c.w) A (call (.builtin "list.append") [.ref D, x]) (fun _ s₅ => ∃ m, m < k + 1 ∧ CInv c s ρ csc γf src I D cenv l σ₂ (compBody C csc elt t cond γf) m s₅) (notedBy (model c.prog c.w) A cenv fun e s' => R (.error e) s') s₄) (notedBy (model c.prog c.w) A cenv fun e s' => R (.error e) s') { s with heap := h₃, toks := tk₃ } := by
      intro σ₃ ρ₃ h₃ tk₃ gg oo y hy hry
      have en₃ := en₂.grow o₂.st gg
      have gs₃ : Grow ρ s.heap ρ₃ h₃ := g₂.trans gg
      refine (Ge csc cenv γ' σ₃ y r.2 A { s with heap := h₃, toks := tk₃ } ρ₃ hy hR (F.grow S₀ gs₃) oo en₃).1 _ _ fun x ρ₄ h₄ tk₄ g₄ o₄ rx₄ => ?_
      have gb : Gb [] ρ' h₂ ρ₄ h₄ := Gb.ofGrow (gg.trans g₄)
      have hd₄ : h₄.get? D = some (W.listOf xs.toArray nD) := gb.exact hd₂ hD' (by simp) fun es ep q => by cases q
      have it₄ := it₂.gb o₂.st gb (by simp) fun a ha => by cases ha
      have rxs₄ : RvL c.T ρ₄ h₄ xs acc := rx₂.grow (gg.trans g₄) o₂.st
      have hlen : xs.length ≤ 1000000 := by
        rw [rxs₄.length]
        rw [hlr, List.length_append] at hl
        omega
      refine append_at (s := { s with heap := h₄, toks := tk₄ }) hd₄ (fun h₅ hs₅ hg₅ => ?_) (by rw [List.size_toArray]; exact fits hlen)
      have hg' : h₅.get? D = some (W.listOf (xs ++ [x]).toArray (nD + 1)) := by rw [hg₅]; simp [W.listOf]
      have apD := list_apart hd₄
      have hD₄ : D ∉ ρ₄ := by
        obtain ⟨m, e', hm⟩ := (gg.trans g₄).more
        rw [e']
        intro hq
        rcases List.mem_append.mp hq with hq | hq
        · exact hD' hq
        · rw [hm D hq] at hd₂; cases hd₂
      have gs₅ : Grow ρ s.heap ρ₄ h₅ := (gs₃.trans g₄).thenGb (Gb.ofExtBut (S := [D]) hs₅.extBut (.head _)) fun a ha => by rw [List.mem_singleton.mp ha]; exact hD
      refine ⟨k, Nat.lt_succ_self _, i + 1, r.2, acc ++ [y], q.1, ρ₄, h₅, tk₄, xs ++ [x], nD + 1, rfl, gs₅, o₄.extBut hs₅.extBut hD₄ apD hD0, ?_, hg', hD₄, ?_, (back (en₃.grow oo.st g₄)).extBut hs₅.extBut apD, ?_, ?_⟩
      · exact it₄.gb o₄.st (Gb.ofExtBut (S := [D]) hs₅.extBut (.head _)) (by simpa using hID) apD.one
      · have ra : RvL c.T ρ₄ h₄ (xs ++ [x]) (acc ++ [y]) := rxs₄.append (show RvL c.T ρ₄ h₄ [x] [y] from ⟨rx₄, trivial⟩)
        exact ra.mono ⟨[], by simp⟩ fun b vs m e => hs₅.extBut b _ (fun z => apD.noTup _ _ (z ▸ e)) e
      · rw [hq]
        have := congrArg Prod.snd eq
        simp only at this
        rw [← this]
      · have := congrArg Prod.fst eq
        simp only at this
        rw [hry] at this
        rw [hlr, ← this]
        simp
    cases cond with
    | no =>
      obtain ⟨z, hz, hr⟩ := Option.map_eq_some_iff.mp hr
      refine wpAny_tests_nil ?_
      rw [if_pos rfl]
      subst hr
      exact tail σ ρ' h₂ tk₂ (Grow.refl ..) o₂ z.1 hz rfl
    | yes cc =>
      obtain ⟨z, hz, hr⟩ := Option.bind_eq_some_iff.mp hr
      refine wpAny_tests_one ?_
      have gs₂ := g₂
      split at hr
      · rename_i ht
        obtain ⟨z', hz', hr⟩ := Option.map_eq_some_iff.mp hr
        refine (Gc cc rfl csc cenv γ' σ z.1 z.2 A { s with heap := h₂, toks := tk₂ } ρ' hz hR (F.grow S₀ gs₂) o₂ en₂).2 true ht _ _ fun ρ₃ h₃ tk₃ g₃ o₃ => ?_
        rw [if_pos rfl]
        subst hr
        exact tail z.2 ρ₃ h₃ tk₃ g₃ o₃ z'.1 hz' rfl
      · rename_i ht
        refine (Gc cc rfl csc cenv γ' σ z.1 z.2 A { s with heap := h₂, toks := tk₂ } ρ' hz hR (F.grow S₀ gs₂) o₂ en₂).2 false ht _ _ fun ρ₃ h₃ tk₃ g₃ o₃ => ?_
        rw [if_neg (by decide)]
        cases hr
        have gb : Gb [] ρ' h₂ ρ₃ h₃ := Gb.ofGrow g₃
        have hD₃ : D ∉ ρ₃ := by
          obtain ⟨m, e', hm⟩ := g₃.more
          rw [e']
          intro hq
          rcases List.mem_append.mp hq with hq | hq
          · exact hD' hq
          · rw [hm D hq] at hd₂; cases hd₂
        refine ⟨k, Nat.lt_succ_self _, i + 1, z.2, acc, q.1, ρ₃, h₃, tk₃, xs, nD, rfl, g₂.trans g₃, o₃, it₂.gb o₂.st gb (by simp) (fun a ha => by cases ha), gb.exact hd₂ hD' (by simp) (fun es ep q => by cases q), hD₃, rx₂.grow g₃ o₂.st, back (en₂.grow o₂.st g₃), ?_, ?_⟩
        · rw [hq]
          have := congrArg Prod.snd eq
          simp only at this
          rw [← this]
        · have := congrArg Prod.fst eq
          simp only at this
          rw [hlr, ← this]
      · cases hr
end
end Mine
end
section
open PySem PySem.W PyProof.Rows PySem.Calls PySem.SeqAt
set_option maxRecDepth 100000
set_option linter.unusedVariables false
set_option autoImplicit false
namespace Mine
section
variable {c : Cx} {n : Nat} {C : Cfg}

theorem iter_self {A : Around} {s : Shared} {T : Tab} {it : Addr} {src : Src} {i : Nat} {ρ : List Addr} {Q : Value → Shared → Prop} {E : Value → Shared → Prop} (I : ItAt T it src i ρ s.heap) (hs : ∀ n, src ≠ .rng n) (h : Q (.ref it) s) : wpAny (model c.prog c.w) A (pyIter (.ref it)) Q E s := by
  cases src with
  | tup l =>
    obtain ⟨t, vals, n, h1, _⟩ := I
    refine wpAny_pyIter_slot h1.typeIs F.slot_tuple_iterator_iter (wpAny_call_entry F.slot_tuple_iterator_iter h1.typeIs F.entry_tuple_iterator_iter ?_ (F.args_tuple_iterator_iter_1 _))
    show wpAny _ _ (ret (.ref it)) _ _ s
    exact wpAny_pure ⟨_, rfl, "tuple_iterator", _, h1.typeIs, F.slot_tuple_iterator_next.lookup, h⟩
  | lst k =>
    obtain ⟨a, _, h1⟩ := I
    exact wpAny_pyIter_listiter h1 h
  | rng n => exact absurd rfl (hs n)

theorem mem_of_lookupN {α : Type} : ∀ {l : List (Nat × α)} {y : Nat} {w : α}, l.lookup y = some w → (y, w) ∈ l
  | (k, v) :: r, y, w, h => by
    rw [List.lookup_cons] at h
    cases hb : y == k with
    | true => rw [hb] at h; cases h; rw [beq_iff_eq.mp hb]; exact .head _
    | false => rw [hb] at h; exact .tail _ (mem_of_lookupN h)
theorem size_ne {h : Heap} {o : Obj} : (h.push o).objs.size ≠ h.objs.size := by rw [Heap.size_push]; exact Nat.succ_ne_self _

theorem comp_core {A : Around} {s : Shared} {ρ : List Addr} {sc : Sc} {env : PySem.Env} {elt : IE} {t : Tgt} {it : IE} {cond : IEo} {nms : List (Nat × NameKind)} {csc : Sc} {free : List Nat} {p : Pos} {γ : Env1} {σ σ₂ : Store} {l : List V} {a : V × Store} {src : Src}
    {RR : Value → Addr → Result → Shared → Prop} {E : Value → Shared → Prop}
    (S : Snd c n C) (Gi : GE c n C it) (Ge : GE c n C elt) (Gc : ∀ cc, cond = .yes cc → GE c n C cc) (hw : CompWf c sc nms csc free) (ha : evE C sc it γ σ = some a) (hs : srcOf a.1 = some src)
    (hq : loopC (compBody C csc elt t cond (γ.filter fun q => free.contains q.1)) src FU 0 a.2 = some (l, σ₂)) (hl : l.length ≤ 1000000) (hone : (C.mm || oneT t) = true) (hso : srcOk C.mm src = true) (R : Room c C.mm A n) (F : FrOk c A s.heap) (O : Ok c ρ σ s.heap) (X : En c sc env γ ρ s.heap)
    (fin : ∀ D Cc ρ' h' tk m, Grow ρ s.heap (ρ' ++ [D]) h' → Ok c (ρ' ++ [D]) (σ₂ ++ [l]) h' → ρ'.length = σ₂.length → h'.Ns Cc m → s.heap.get? Cc = none → RR (.ref D) Cc (.ok .next) { s with heap := h', toks := tk }) :
    wpAny (model c.prog c.w) A (eval (dE c.T it) env) (fun x s₁ => wpAny (model c.prog c.w) A (pyIter x) (fun itv s₂ => wpAny (model c.prog c.w) A (newList []) (fun acc s₃ =>
      wpAny (model c.prog c.w) A (newFunctionEnv (dScope c.T nms) env.globals (closL env (dScope c.T nms).names []) [] env.qual none .none (some env)) (fun cenv s₄ =>
        codeAny (model c.prog c.w) A (.compStart (.ListComp (dE c.T elt) [⟨dT c.T t, dE c.T it, ifsOf c.T cond, 0⟩] (dScope c.T nms) p) 0 itv acc { cenv with scope := relabel (dScope c.T nms) env }) (RR acc cenv.locals) s₄) E s₃) E s₂) E s₁) E s := by
  refine (Gi sc env γ σ a.1 a.2 A s ρ ha R F O X).1 _ _ fun x ρ₁ h₁ tk₁ g₁ o₁ rx => ?_
  refine iter_ok (s := { s with heap := h₁, toks := tk₁ }) o₁ rx hs fun oi vs hoi it₁ => ?_
  have hcell : ∀ y ∈ (dScope c.T nms).names, y.2 ≠ .cell := fun y hy => by
    obtain ⟨q, hq, rfl⟩ := List.mem_map.mp hy
    rcases hw.kinds q hq with h | h | h <;> simp [h]
  refine wpAny_newObj_type (wpAny_newFunctionEnv hcell (by intro y hy; simp at hy) (fun h₄ hns hsb => ?_) rfl) (by show (0 : Nat) ≤ sizeLine; exact Nat.zero_le _)
  dsimp only at hns hsb ⊢
  -- the three new objects
  have fI : h₁.get? h₁.objs.size = none := fresh_size h₁
  generalize hH2 : h₁.push oi = H2 at *
  have fD : H2.get? H2.objs.size = none := fresh_size H2
  generalize hH3 : H2.push { cls := Value.type "list", dict := none, data := Data.seq ([] : List Value).toArray } = H3 at *
  have fC : H3.get? H3.objs.size = none := fresh_size H3
  have k12 : ∀ b o, h₁.get? b = some o → H2.get? b = some o := fun b o e => hH2 ▸ Heap.get?_push_of_some _ e
  have k23 : ∀ b o, H2.get? b = some o → H3.get? b = some o := fun b o e => hH3 ▸ Heap.get?_push_of_some _ e
  have k34 : ∀ b o, H3.get? b = some o → h₄.get? b = some o := fun b o e => hsb.extBut b o (Nat.ne_of_lt (Heap.lt_size e)) (Heap.get?_push_of_some _ e)
  have kall : ∀ b o, h₁.get? b = some o → h₄.get? b = some o := fun b o e => k34 b o (k23 b o (k12 b o e))
  have gI : ∃ o, H2.get? h₁.objs.size = some o := ⟨oi, hH2 ▸ Heap.get?_push_size _ (Obj.isFreed_of_fields hoi)⟩
  have gD : H3.get? H2.objs.size = some (W.listOf ([] : List Value).toArray 0) := hH3 ▸ Heap.get?_push_size _ rfl
  have sI : s.heap.get? h₁.objs.size = none := push_fresh g₁ fI
  have sD : s.heap.get? H2.objs.size = none := by
    refine push_fresh g₁ ?_
    cases q : h₁.get? H2.objs.size with
    | none => rfl
    | some o => rw [k12 _ _ q] at fD; cases fD
  have sC : s.heap.get? H3.objs.size = none := by
    refine push_fresh g₁ ?_
    cases q : h₁.get? H3.objs.size with
    | none => rfl
    | some o => rw [k23 _ _ (k12 _ _ q)] at fC; cases fC
  have hID : h₁.objs.size ≠ H2.objs.size := by rw [← hH2, Heap.size_push]; exact Nat.ne_of_lt (Nat.lt_succ_self _)
  have g₄ : Grow ρ s.heap ρ₁ h₄ := g₁.trans (Grow.ext kall)
  have o₄ : Ok c ρ₁ a.2 h₄ := o₁.ext kall
  have X₁ := X.grow O.st g₁
  have it₂ : ItAt c.T h₁.objs.size src 0 ρ₁ H2 := it₁
  have it₄ : ItAt c.T h₁.objs.size src 0 ρ₁ h₄ := by
    have S2 : St c.T ρ₁ a.2 H2 := o₁.st.ext k12
    exact it₂.gb S2 (Gb.ofGrow (S := []) (Grow.ext fun b o e => k34 b o (k23 b o e))) (by simp) fun a ha => by cases ha
  have d₄ := k34 _ _ gD
  have hoff : H2.objs.size ∉ ρ₁ := fun hm => by
    obtain ⟨vals, m, q⟩ := o₁.st.isList hm
    rw [k12 _ _ q] at fD; cases fD
  have en₄ := hw.en (X₁.grow o₁.st (Grow.ext kall)) hns
  have loop : ∀ tk, codeAny (model c.prog c.w) A (.compLoop (.ListComp (dE c.T elt) [⟨dT c.T t, dE c.T it, ifsOf c.T cond, 0⟩] (dScope c.T nms) p) 0 (.ref h₁.objs.size) (.ref H2.objs.size) (compEnvC (dScope c.T nms) (closL env (dScope c.T nms).names []) H3.objs.size env))
      (RR (.ref H2.objs.size) H3.objs.size) { s with heap := h₄, toks := tk } := fun tk => by
    refine comp_loop (cenv := compEnvC (dScope c.T nms) (closL env (dScope c.T nms).names []) H3.objs.size env) R hone hso F O.base Ge Gc sI sD sC hID hl ⟨σ, O.st⟩ ?_ (fun ρ' h' tk m gg oo le hn => fin _ _ ρ' h' tk m gg oo le hn sC) FU 0 a.2 [] l ρ₁ h₄ tk [] 0 g₄ o₄ it₄ d₄ hoff trivial en₄ hq rfl
    intro y w hy hyl
    have hf : free.contains y = true := by
      have := mem_of_lookupN hy
      exact (List.mem_filter.mp this).2
    have h1 := hw.cel y (hw.free y (List.contains_iff_mem.mp hf))
    rw [hw.loc y hyl] at h1; cases h1
  exact codeAny_compStart_list (loop _) (iter_self (s := { s with heap := h₄, toks := _ }) it₄ (fun n q => by subst q; unfold srcOf at hs; split at hs <;> cases hs) (loop _))

theorem CompWf.names {sc : Sc} {nms : List (Nat × NameKind)} {csc : Sc} {free : List Nat} (w : CompWf c sc nms csc free) : ∀ x ∈ (dScope c.T nms).names, x.2 = .local → (dScope c.T nms).names.lookup x.1 = some .local := fun x hx e => by
  have := pw_lookup w.pw x hx
  rw [e] at this; exact this
/-- the frame of a comprehension is let go -/
theorem letC {ρ ρ' : List Addr} {σ : Store} {h h' h'' : Heap} {Cc : Addr} {m : Str → Option Value} (g : Grow ρ h ρ' h') (o : Ok c ρ' σ h') (hb : ∀ b o, c.h₀.get? b = some o → h.get? b = some o) (hn : h'.Ns Cc m) (hC : h.get? Cc = none) (hs : Heap.SameBut Cc h' h'') :
    Grow ρ h ρ' h'' ∧ Ok c ρ' σ h'' := by
  refine ⟨g.thenGb (Gb.ofExtBut (S := [Cc]) hs.extBut (.head _)) fun a ha => by rw [List.mem_singleton.mp ha]; exact hC, o.but hs (Ns.offL o.st hn) (Ns.noTup hn) ?_⟩
  cases q : c.h₀.get? Cc with
  | none => rfl
  | some ob => rw [hb _ _ q] at hC; cases hC
theorem last_ref {ρ' : List Addr} {σ : Store} {h : Heap} {D : Addr} {T : Tab} (e : ρ'.length = σ.length) : Rv T (ρ' ++ [D]) h (.ref D) (.ref σ.length) := by
  refine .ref _ _ ?_
  rw [← e]; simp
theorem ge_comp (S : Snd c n C) {elt it : IE} {cond : IEo} (t : Tgt) (nms : List (Nat × NameKind)) (csc : Sc) (free : List Nat) (p : Pos) (Gi : GE c n C it) (Ge : GE c n C elt) (Gc : ∀ cc, cond = .yes cc → GE c n C cc) : GE c n C (.comp elt t it cond nms csc free p) :=
  ge_plain (fun T env => by cases cond <;> rfl) fun sc env γ σ v σ' A s ρ e R F O X => by
    obtain ⟨⟨hw, hone⟩, a, src, q, hso, ha, hs, hq, hm⟩ := evE_comp e
    have w := compWf_ok S hw
    unfold mkLst at hm
    split at hm
    · rename_i hl
      cases hm
      intro Q E hQ
      have hd : dE c.T (.comp elt t it cond nms csc free p) = .ListComp (dE c.T elt) [⟨dT c.T t, dE c.T it, ifsOf c.T cond, 0⟩] (dScope c.T nms) p := by cases cond <;> rfl
      rw [hd, eval_ListComp]
      refine wpAny_comprehension_free (use := none) rfl (folded_ok ha c.T env) (w.clos X) rfl w.names (comp_core (RR := fun acc Cc => compPost (model c.prog c.w) A E none Q acc Cc) S Gi Ge Gc w ha hs hq (okL_le hl) hone hso R F O X ?_)
      intro D Cc ρ' h' tk m g o le hn hC
      refine ⟨m, hn, fun h'' hsb => ?_⟩
      obtain ⟨g'', o''⟩ := letC g o O.base hn hC hsb
      exact hQ _ _ h'' tk g'' o'' (last_ref le)
    · cases hm

mutual
theorem ge_all (S : Snd c n C) : ∀ e : IE, GE c n C e
  | .none k p => ge_none k p
  | .bool b k p => ge_bool b k p
  | .int i k p => ge_int i k p
  | .str i k p => ge_str S i k p
  | .lv x p => ge_lv x p
  | .gi x p => ge_gi S x p
  | .tup es k p => ge_tup (ges_all S es) k p
  | .lst es p => ge_lst (ges_all S es) p
  | .idx e i p => ge_idx S (ge_all S e) (ge_all S i) p
  | .slc e lo hi ps p => ge_slc (ge_all S e) (go_all S lo) (go_all S hi) ps p
  | .rev e st ps p => ge_rev (ge_all S e) (ge_all S st) ps p
  | .bin o a b p => ge_bin o (ge_all S a) (ge_all S b) p
  | .cmp o a b p => ge_cmp S o (ge_all S a) (ge_all S b) p
  | .and es p => ge_and (gand_all S es) p
  | .or es p => ge_or (gor_all S es) p
  | .not e p => ge_not (ge_all S e) p
  | .neg e p => ge_neg (ge_all S e) p
  | .ite t a b p => ge_ite (ge_all S t) (ge_all S a) (ge_all S b) p
  | .call f fp es p => ge_call S (ges_all S es) f fp p
  | .bcall b x fp es p => ge_bcall S (ges_all S es) b x fp p
  | .meth o m ap es p => ge_meth (ge_all S o) (ges_all S es) m ap p
  | .comp elt t it .no nms csc free p => ge_comp S t nms csc free p (ge_all S it) (ge_all S elt) (fun cc h => by cases h)
  | .comp elt t it (.yes c') nms csc free p => ge_comp S t nms csc free p (ge_all S it) (ge_all S elt) (fun cc h => by cases h; exact ge_all S c')
  | .hook k x y p1 p2 => ge_hook S k x y p1 p2
  | .opq e => fun sc env γ σ v σ' A s ρ e => by cases e
theorem ges_all (S : Snd c n C) : ∀ es : IEs, GEs c n C es
  | .nil => ges_nil
  | .cons e r => ges_cons (ge_all S e) (ges_all S r)
theorem go_all (S : Snd c n C) : ∀ o : IEo, GO c n C o
  | .no => go_no
  | .yes e => go_yes (ge_all S e)
theorem gand_all (S : Snd c n C) : ∀ es : IEs, GAnd c n C es
  | .nil => gand_nil
  | .cons e .nil => gand_one (ge_all S e)
  | .cons e (.cons e' r) => gand_more (ge_all S e) (gand_all S (.cons e' r))
theorem gor_all (S : Snd c n C) : ∀ es : IEs, GOr c n C es
  | .nil => gor_nil
  | .cons e .nil => gor_one (ge_all S e)
  | .cons e (.cons e' r) => gor_more (ge_all S e) (gor_all S (.cons e' r))
end
end
end Mine
end
section
open PySem PySem.W PyProof.Rows PySem.Calls PySem.SeqAt
set_option maxRecDepth 100000
set_option linter.unusedVariables false
set_option autoImplicit false
namespace Mine
section
variable {c : Cx} {A : Around} {ρ ρ₁ : List Addr} {σ : Store} {s : Shared} {sc : Sc} {env : PySem.Env} {γ : Env1}

/-- the states of a traceback within a run -/
noncomputable def FlOk (env : PySem.Env) (fl : Option Value) : Prop := fl = none ∨ fl = some .none ∨ ∃ L, env.frame = some L ∧ fl = some (rawInt L)

/-- what every step of an exception's flight keeps -/
structure Kept (c : Cx) (hb : Heap) (ρ : List Addr) (σ : Store) (sc : Sc) (env : PySem.Env) (γ : Env1) (h h' : Heap) : Prop where
  ok : Ok c ρ σ h'
  en : En c sc env γ ρ h'
  gb : ∀ S ρ₀, Gb S ρ₀ hb ρ h → Gb S ρ₀ hb ρ h'
  dom : ∀ b o, hb.get? b = some o → ∃ o', h'.get? b = some o'
  gr : Grow ρ h ρ h' ∨ True
theorem Kept.trans {hb h h' h'' : Heap} (x : Kept c hb ρ σ sc env γ h h') (y : Kept c hb ρ σ sc env γ h' h'') : Kept c hb ρ σ sc env γ h h'' :=
  ⟨y.ok, y.en, fun S ρ₀ g => y.gb S ρ₀ (x.gb S ρ₀ g), y.dom, .inr trivial⟩

/-- only slots of namespaces change -/
theorem kept_slots {hb h h' : Heap} (O : Ok c ρ σ h) (X : En c sc env γ ρ h) (hdom : ∀ b o, hb.get? b = some o → ∃ o', h.get? b = some o')
    (sl : ∀ b o, h.get? b = some o → ∃ sl, h'.get? b = some { o with slots := sl } ∧ ((∀ es ep, o.data ≠ .dict es ep) → sl = o.slots)) (h0 : ∀ b o, c.h₀.get? b = some o → h'.get? b = some o) : Kept c hb ρ σ sc env γ h h' ∧ Grow ρ h ρ h' := by
  have g : Grow ρ h ρ h' := ⟨⟨[], by simp, by simp⟩, fun b o e _ => sl b o e, fun b o e => let ⟨s', e', _⟩ := sl b o e; ⟨_, e'⟩⟩
  have ex : ∀ b o, h.get? b = some o → (∀ es ep, o.data ≠ .dict es ep) → h'.get? b = some o := fun b o e hd => by
    obtain ⟨s', e', q⟩ := sl b o e
    rw [q hd] at e'; exact e'
  refine ⟨⟨⟨⟨O.st.len, O.st.nd, fun k a l h1 h2 => ?_⟩, h0, O.off⟩, X.grow O.st g, fun S ρ₀ G => ⟨G.more, fun b o e hb' hS => ?_, fun b o e hS => ?_⟩, fun b o e => ?_, .inr trivial⟩, g⟩
  · obtain ⟨vals, n, gg, r⟩ := O.st.lst k a l h1 h2
    exact ⟨vals, n, ex _ _ gg (fun es ep q => by cases q), r.mono ⟨[], by simp⟩ fun b vs m e => ex _ _ e fun es ep q => by cases q⟩
  · obtain ⟨s1, e1, q1⟩ := G.keep b o e hb' hS
    obtain ⟨s2, e2, q2⟩ := sl b _ e1
    exact ⟨s2, e2, fun hd => (q2 hd).trans (q1 hd)⟩
  · obtain ⟨o', e'⟩ := G.dom b o e hS
    obtain ⟨s2, e2, _⟩ := sl b _ e'
    exact ⟨_, e2⟩
  · obtain ⟨o', e'⟩ := hdom b o e
    obtain ⟨s2, e2, _⟩ := sl b _ e'
    exact ⟨_, e2⟩
/-- an object of the exception changes -/
theorem kept_field {hb h h' : Heap} {a : Addr} (O : Ok c ρ σ h) (X : En c sc env γ ρ h) (hdom : ∀ b o, hb.get? b = some o → ∃ o', h.get? b = some o') (h0 : ∀ b o, c.h₀.get? b = some o → hb.get? b = some o)
    (hs : Heap.SameBut a h h') (ap : Apart h a) (ha : a ∉ ρ) (hbn : hb.get? a = none) : Kept c hb ρ σ sc env γ h h' := by
  have hc : c.h₀.get? a = none := by
    cases q : c.h₀.get? a with
    | none => rfl
    | some o => rw [h0 a o q] at hbn; cases hbn
  have ne : ∀ {b o}, hb.get? b = some o → b ≠ a := fun {b o} e z => by rw [z, hbn] at e; cases e
  refine ⟨O.extBut hs.extBut ha ap hc, X.extBut hs.extBut ap, fun S ρ₀ G => ⟨G.more, fun b o e hb' hS => ?_, fun b o e hS => ?_⟩, fun b o e => ?_, .inr trivial⟩
  · obtain ⟨s1, e1, q1⟩ := G.keep b o e hb' hS
    exact ⟨s1, (hs.2 b (ne e)).trans e1, q1⟩
  · obtain ⟨o', e'⟩ := G.dom b o e hS
    exact ⟨o', (hs.2 b (ne e)).trans e'⟩
  · obtain ⟨o', e'⟩ := hdom b o e
    exact ⟨o', (hs.2 b (ne e)).trans e'⟩
theorem kept_push {hb h : Heap} (o : Obj) (O : Ok c ρ σ h) (X : En c sc env γ ρ h) (hdom : ∀ b o, hb.get? b = some o → ∃ o', h.get? b = some o') : Kept c hb ρ σ sc env γ h (h.push o) :=
  ⟨O.push o, X.grow O.st (Grow.push ..), fun S ρ₀ G => ⟨G.more, fun b ob e hb' hS => let ⟨s1, e1, q1⟩ := G.keep b ob e hb' hS; ⟨s1, Heap.get?_push_of_some _ e1, q1⟩, fun b ob e hS => let ⟨o', e'⟩ := G.dom b ob e hS; ⟨o', Heap.get?_push_of_some _ e'⟩⟩,
    fun b ob e => let ⟨o', e'⟩ := hdom b ob e; ⟨o', Heap.get?_push_of_some _ e'⟩, .inr trivial⟩

theorem fields_apart {h : Heap} {a : Addr} {o : Obj} {vs : Array Value} (ho : h.get? a = some o) (hd : o.data = .fields vs) : Apart h a :=
  ⟨o, ho, fun es ep q => (by rw [q] at hd; cases hd), fun v q => (by rw [q] at hd; cases hd), fun vals n q => (by rw [q] at hd; cases hd)⟩
theorem fields_off {h : Heap} {a : Addr} {o : Obj} {vs : Array Value} (S : St c.T ρ σ h) (ho : h.get? a = some o) (hd : o.data = .fields vs) : a ∉ ρ :=
  S.off ho fun its n q => by rw [q] at hd; cases hd
theorem mapFields_is {o : Obj} {vs : Array Value} (hd : o.data = .fields vs) (f : Array Value → Array Value) : o.mapFields f = { o with data := .fields (f vs) } := by
  obtain ⟨c, d, dt, sl⟩ := o
  cases hd
  rfl

theorem framesFun {h : Heap} : ∀ {l : List PySem.Env}, (∀ e ∈ l, e.scope.kind ≠ .module ∧ ∃ L m, e.frame = some L ∧ c.h₀.get? L = none ∧ h.Ns L m) → h.FunFrames {} l
  | [], _ => trivial
  | e :: l, H => by
    obtain ⟨h1, L, m, h2, h3, o, es, ep, ho, hd, _⟩ := H e (.head _)
    refine ⟨h1, ⟨L, o, h2, ?_, ho, fun vs q => by rw [q] at hd; cases hd⟩, framesFun fun x hx => H x (.tail _ hx)⟩
    unfold Heap.get?
    simp
theorem frameNs {h : Heap} {l : List PySem.Env} (H : ∀ e ∈ l, e.scope.kind ≠ .module ∧ ∃ L m, e.frame = some L ∧ c.h₀.get? L = none ∧ h.Ns L m) {b : Addr} (hb : b ∈ l.filterMap (·.frame)) : (∃ m, h.Ns b m) ∧ c.h₀.get? b = none := by
  obtain ⟨e, he, hf⟩ := List.mem_filterMap.mp hb
  obtain ⟨_, L, m, h2, h3, h4⟩ := H e he
  rw [h2] at hf
  cases hf
  exact ⟨⟨m, h4⟩, h3⟩

/-- a new entry of the traceback -/
theorem entry_ok {hb : Heap} {a : Addr} {o : Obj} {vs : Array Value} {d : Addr} {mm : Str → Option Value} {vm vs' : Value} {m sp : V} {L : Addr} {head : Value} {hadNext : Bool}
    (he : s.heap.get? a = some o) (hcls : o.cls = c.xcls) (hdict : o.dict = some d) (hd : o.data = .fields vs) (hen : hb.get? a = none) (h2n : vs[2]? = some .none ∧ hb.get? d = none) (hns : s.heap.Ns d mm) (hm : mm (Str.ofString "message") = some vm) (hsp : mm (Str.ofString "spot") = some vs') (rm : Rv c.T ρ s.heap vm m) (rs : Rv c.T ρ s.heap vs' sp) (hsz : 1 < vs.size)
    (hL : env.frame = some L) (F : FrOk c A s.heap) (hA : ∃ outer, A.frames = some (env :: outer)) (O : Ok c ρ σ s.heap) (X : En c sc env γ ρ s.heap)
    (h0 : ∀ b o, c.h₀.get? b = some o → hb.get? b = some o) (hdom : ∀ b o, hb.get? b = some o → ∃ o', s.heap.get? b = some o') {Q : Unit → Shared → Prop} {E : Value → Shared → Prop}
    (hQ : ∀ h', IsExc c hb ρ h' (.ref a) m sp (some (rawInt L)) → Kept c hb ρ σ sc env γ s.heap h' → Q () { s with heap := h' }) :
    wpAny (model c.prog c.w) A (do let f ← frameOf env; let pl ← entryPlaceOf L hadNext; let b ← EntryCells.newEntry head f .none (rawInt L) .none pl; setField (.ref a) 1 b) Q E s := by
  obtain ⟨outer, hfr⟩ := hA
  obtain ⟨fr, hfr', H⟩ := F
  rw [hfr] at hfr'
  cases hfr'
  refine wpAny_bind (wpAny_frameOf_fun hfr (framesFun H) hL fun h₁ hs₁ => ?_)
  have sl : ∀ b ob, s.heap.get? b = some ob → ∃ sl, h₁.get? b = some { ob with slots := sl } ∧ ((∀ es ep, ob.data ≠ .dict es ep) → sl = ob.slots) := fun b ob e => by
    by_cases hb' : b ∈ (env :: outer).filterMap (·.frame)
    · obtain ⟨sl, e'⟩ := hs₁.2.2 b ob e
      refine ⟨sl, e', fun hd' => ?_⟩
      obtain ⟨⟨m', o', es, ep, ho', hd'', _⟩, _⟩ := frameNs H hb'
      rw [e] at ho'; cases ho'
      exact absurd hd'' (hd' es ep)
    · exact ⟨ob.slots, (hs₁.2.1 b hb').trans e, fun _ => rfl⟩
  obtain ⟨K₁, G₁⟩ := kept_slots (hb := hb) O X hdom sl fun b ob e => by
    have := O.base b ob e
    by_cases hb' : b ∈ (env :: outer).filterMap (·.frame)
    · rw [(frameNs H hb').2] at e; cases e
    · exact (hs₁.2.1 b hb').trans this
  have he₁ : h₁.get? a = some o := by
    obtain ⟨sl', e', q⟩ := sl a o he
    rw [q fun es ep z => by rw [z] at hd; cases hd] at e'
    exact e'
  refine wpAny_bind (wpAny_entryPlaceOf fun pl hpl => ?_)
  unfold EntryCells.newEntry newFields
  refine wpAny_bind (wpAny_newObj_type ?_ (hpl.sizeOk5 _ _ _ _ _))
  generalize hob : ({ cls := .type "traceback", dict := none, data := .fields ([head, .ref L, .none, rawInt L, .none] ++ (if pl.isEmpty then List.replicate 6 Value.none else pl)).toArray } : Obj) = ob
  have hobd : ob.data = .fields ([head, .ref L, .none, rawInt L, .none] ++ (if pl.isEmpty then List.replicate 6 Value.none else pl)).toArray := by rw [← hob]
  have K₂ := K₁.trans (kept_push ob K₁.ok K₁.en K₁.dom)
  have he₂ : (h₁.push ob).get? a = some o := Heap.get?_push_of_some ob he₁
  refine wpAny_setField (s := { s with heap := h₁.push ob }) he₂ hd hsz ?_
  have hTe : h₁.objs.size ≠ a := Nat.ne_of_gt (Heap.lt_size he₁)
  have hT₂ : (h₁.push ob).get? h₁.objs.size = some ob := Heap.get?_push_size _ (Obj.isFreed_of_fields hobd)
  have hsb : Heap.SameBut a (h₁.push ob) ((h₁.push ob).update a (Obj.mapFields (·.setIfInBounds 1 (Value.ref h₁.objs.size)))) := Heap.SameBut.update ..
  have K₃ := K₂.trans (kept_field K₂.ok K₂.en K₂.dom h0 hsb (fields_apart he₂ hd) (fields_off K₂.ok.st he₂ hd) hen)
  have he₃ : ((h₁.push ob).update a (Obj.mapFields (·.setIfInBounds 1 (Value.ref h₁.objs.size)))).get? a = some { o with data := .fields (vs.setIfInBounds 1 (Value.ref h₁.objs.size)) } := by
    have := Heap.get?_update_self (Obj.mapFields (·.setIfInBounds 1 (Value.ref h₁.objs.size))) he₂ (Obj.isFreed_of_fields (Obj.data_mapFields hd _))
    rw [mapFields_is hd] at this
    exact this
  have gP := Grow.push ρ h₁ ob
  have up : ∀ {y w}, Rv c.T ρ s.heap y w → Rv c.T ρ ((h₁.push ob).update a (Obj.mapFields (·.setIfInBounds 1 (Value.ref h₁.objs.size)))) y w := fun r =>
    ((r.grow G₁ O.st).grow gP K₁.ok.st).mono ⟨[], by simp⟩ fun b vals n e => hsb.extBut b _ (fun z => by
      subst z
      rw [he₂] at e
      have := Option.some.inj e
      rw [this] at hd
      cases hd) e
  have hns₃ : ((h₁.push ob).update a (Obj.mapFields (·.setIfInBounds 1 (Value.ref h₁.objs.size)))).Ns d mm :=
    (gP.ns K₁.ok.st (G₁.ns O.st hns)).sameBut hsb (ns_apart (gP.ns K₁.ok.st (G₁.ns O.st hns)) (fields_apart he₂ hd))
  have hTb : hb.get? h₁.objs.size = none := by
    cases q : hb.get? h₁.objs.size with
    | none => rfl
    | some ob' =>
      obtain ⟨o', e'⟩ := K₁.dom _ _ q
      exact absurd (Heap.lt_size e') (Nat.lt_irrefl _)
  refine hQ _ ⟨a, _, _, d, mm, vm, vs', rfl, he₃, hcls, hdict, rfl, ⟨hen, (Array.getElem?_setIfInBounds_ne (by decide)).trans h2n.1, h2n.2⟩, hns₃, hm, hsp, up rm, up rs, h₁.objs.size, ob, _, by simp [hsz], hTe, (hsb.2 _ hTe).trans hT₂, hobd, by simp, hTb⟩ K₃

/-- the traceback notes the frame -/
theorem note_ok {hb : Heap} {e : Value} {m sp : V} {fl : Option Value} (x : IsExc c hb ρ s.heap e m sp fl) (hf : FlOk env fl) (F : FrOk c A s.heap) (hA : ∃ outer, A.frames = some (env :: outer)) (O : Ok c ρ σ s.heap) (X : En c sc env γ ρ s.heap)
    (h0 : ∀ b o, c.h₀.get? b = some o → hb.get? b = some o) (hdom : ∀ b o, hb.get? b = some o → ∃ o', s.heap.get? b = some o') {Q : Unit → Shared → Prop} {E : Value → Shared → Prop}
    (hQ : ∀ h' L, env.frame = some L → IsExc c hb ρ h' e m sp (some (rawInt L)) → Kept c hb ρ σ sc env γ s.heap h' → Q () { s with heap := h' }) :
    wpAny (model c.prog c.w) A (noteFrame e env) Q E s := by
  obtain ⟨a, o, vs, d, mm, vm, vs', rfl, h2, h3, h4, h5, h6, h7, h8, h9, h10, h11, h12⟩ := x
  have hfe : ∃ L, env.frame = some L := by
    obtain ⟨outer, hfr⟩ := hA
    obtain ⟨fr, hfr', H⟩ := F
    rw [hfr] at hfr'
    cases hfr'
    obtain ⟨_, L, _, hL, _⟩ := H env (.head _)
    exact ⟨L, hL⟩
  obtain ⟨L, hL⟩ := hfe
  unfold noteFrame
  simp only [hL]
  rcases hf with rfl | rfl | ⟨L', hL', rfl⟩
  · have h12 : vs[1]? = some .none := h12
    refine wpAny_bind (wpAny_field h2 h5 h12 ?_)
    rw [if_neg (by decide)]
    exact entry_ok h2 h3 h4 h5 h6.1 h6.2 h7 h8 h9 h10 h11 (Array.getElem?_eq_some_iff.mp h12).1 hL F hA O X h0 hdom fun h' x K => hQ h' L hL x K
  · obtain ⟨tb, ot, ts, k1, k2, k3, k4, k5, k6⟩ := h12
    refine wpAny_bind (wpAny_field h2 h5 k1 ?_)
    rw [if_pos (show (Value.ref tb != Value.none) = true from by simp)]
    refine wpAny_bind (wpAny_field k3 k4 k5 ?_)
    rw [if_neg (show ¬ ((Value.none == rawInt L) = true) from by simp [rawInt])]
    refine wpAny_bind (wpAny_setField k3 k4 (Array.getElem?_eq_some_iff.mp k5).1 ?_)
    have hsb : Heap.SameBut tb s.heap (s.heap.update tb (Obj.mapFields (·.setIfInBounds 3 Value.none))) := Heap.SameBut.update ..
    have K₁ : Kept c hb ρ σ sc env γ s.heap _ := kept_field O X hdom h0 hsb (fields_apart k3 k4) (fields_off O.st k3 k4) k6
    have up : ∀ {y w}, Rv c.T ρ s.heap y w → Rv c.T ρ (s.heap.update tb (Obj.mapFields (·.setIfInBounds 3 Value.none))) y w := fun r =>
      r.mono ⟨[], by simp⟩ fun b vals n e => hsb.extBut b _ (fun z => by
        subst z
        rw [k3] at e
        have := Option.some.inj e
        rw [this] at k4
        cases k4) e
    have F' : FrOk c A (s.heap.update tb (Obj.mapFields (·.setIfInBounds 3 Value.none))) := by
      obtain ⟨fr, hfr', H⟩ := F
      refine ⟨fr, hfr', fun y hy => ?_⟩
      obtain ⟨q1, L', m', q2, q3, q4⟩ := H y hy
      exact ⟨q1, L', m', q2, q3, q4.sameBut hsb (ns_apart q4 (fields_apart k3 k4))⟩
    refine entry_ok (s := { s with heap := s.heap.update tb (Obj.mapFields (·.setIfInBounds 3 Value.none)) }) ((hsb.2 a (Ne.symm k2)).trans h2) h3 h4 h5 h6.1 h6.2 (h7.sameBut hsb (ns_apart h7 (fields_apart k3 k4))) h8 h9 (up h10) (up h11) (Array.getElem?_eq_some_iff.mp k1).1 hL F' hA K₁.ok K₁.en h0 K₁.dom fun h' x K => hQ h' L hL x (K₁.trans K)
  · rw [hL] at hL'
    cases hL'
    have h12' := h12
    obtain ⟨tb, ot, ts, k1, k2, k3, k4, k5, k6⟩ := h12
    refine wpAny_bind (wpAny_field h2 h5 k1 ?_)
    rw [if_pos (show (Value.ref tb != Value.none) = true from by simp)]
    refine wpAny_bind (wpAny_field k3 k4 k5 ?_)
    rw [if_pos (show (rawInt L == rawInt L) = true from by simp)]
    exact wpAny_pure (hQ s.heap L hL ⟨a, o, vs, d, mm, vm, vs', rfl, h2, h3, h4, h5, h6, h7, h8, h9, h10, h11, h12'⟩ ⟨O, X, fun _ _ g => g, hdom, .inr trivial⟩)

theorem setFlight_ok {hb : Heap} {e : Value} {m sp : V} {f : Value} (fr : Option Addr) (x : IsExc c hb ρ s.heap e m sp (some f)) (O : Ok c ρ σ s.heap) (X : En c sc env γ ρ s.heap)
    (h0 : ∀ b o, c.h₀.get? b = some o → hb.get? b = some o) (hdom : ∀ b o, hb.get? b = some o → ∃ o', s.heap.get? b = some o') {Q : Unit → Shared → Prop} {E : Value → Shared → Prop}
    (hQ : ∀ h', IsExc c hb ρ h' e m sp (some (fr.elim .none fun f => rawInt f)) → Kept c hb ρ σ sc env γ s.heap h' → Q () { s with heap := h' }) :
    wpAny (model c.prog c.w) A (setFlight e fr) Q E s := by
  obtain ⟨a, o, vs, d, mm, vm, vs', rfl, h2, h3, h4, h5, h6, h7, h8, h9, h10, h11, tb, ot, ts, k1, k2, k3, k4, k5, k6⟩ := x
  unfold setFlight
  refine wpAny_bind (wpAny_field h2 h5 k1 ?_)
  rw [if_pos (show (Value.ref tb != Value.none) = true from by simp)]
  have hsz := (Array.getElem?_eq_some_iff.mp k5).1
  refine wpAny_setField k3 k4 hsz ?_
  have hsb : Heap.SameBut tb s.heap (s.heap.update tb (Obj.mapFields (·.setIfInBounds 3 (fr.elim Value.none fun f => rawInt f)))) := Heap.SameBut.update ..
  have K₁ : Kept c hb ρ σ sc env γ s.heap _ := kept_field O X hdom h0 hsb (fields_apart k3 k4) (fields_off O.st k3 k4) k6
  have up : ∀ {y w}, Rv c.T ρ s.heap y w → Rv c.T ρ (s.heap.update tb (Obj.mapFields (·.setIfInBounds 3 (fr.elim Value.none fun f => rawInt f)))) y w := fun r =>
    r.mono ⟨[], by simp⟩ fun b vals n e => hsb.extBut b _ (fun z => by
      subst z
      rw [k3] at e
      have := Option.some.inj e
      rw [this] at k4
      cases k4) e
  have ht : (s.heap.update tb (Obj.mapFields (·.setIfInBounds 3 (fr.elim Value.none fun f => rawInt f)))).get? tb = some { ot with data := .fields (ts.setIfInBounds 3 (fr.elim Value.none fun f => rawInt f)) } := by
    have := Heap.get?_update_self (Obj.mapFields (·.setIfInBounds 3 (fr.elim Value.none fun f => rawInt f))) k3 (Obj.isFreed_of_fields (Obj.data_mapFields k4 _))
    rw [mapFields_is k4] at this
    exact this
  exact hQ _ ⟨a, o, vs, d, mm, vm, vs', rfl, (hsb.2 a (Ne.symm k2)).trans h2, h3, h4, h5, h6, h7.sameBut hsb (ns_apart h7 (fields_apart k3 k4)), h8, h9, up h10, up h11, tb, _, _, k1, k2, ht, rfl, by simp [hsz], k6⟩ K₁

/-- the exception came back into the frame -/
theorem back_ok {hb : Heap} {e : Value} {m sp : V} {L : Addr} (x : IsExc c hb ρ s.heap e m sp (some (rawInt L))) (hL : env.frame = some L) (O : Ok c ρ σ s.heap) (X : En c sc env γ ρ s.heap)
    (h0 : ∀ b o, c.h₀.get? b = some o → hb.get? b = some o) (hdom : ∀ b o, hb.get? b = some o → ∃ o', s.heap.get? b = some o') {E : Value → Shared → Prop}
    (hQ : ∀ h', IsExc c hb ρ h' e m sp (some (rawInt L)) → Kept c hb ρ σ sc env γ s.heap h' → E e { s with heap := h' }) :
    cameBackBy (model c.prog c.w) A env E e s := by
  unfold cameBackBy
  have key : wpAny (model c.prog c.w) A (setFlight e env.frame) (fun _ s'' => E e s'') E s := by
    rw [hL]
    exact setFlight_ok (some L) x O X h0 hdom hQ
  obtain ⟨a, o, vs, d, mm, vm, vs', rfl, h2, h3, h4, h5, h6, h7, h8, h9, h10, h11, tb, ot, ts, k1, k2, k3, k4, k5, k6⟩ := x
  refine wpAny_bind (wpAny_field h2 h5 k1 ?_)
  rw [if_neg (show ¬ ((Value.ref tb == Value.none) = true) from by simp)]
  first
    | exact key
    | exact wpAny_bind (wpAny_pure key)
/-- the exception leaves the frame -/
theorem leave_ok {hb : Heap} {e : Value} {m sp : V} {fl : Option Value} (x : IsExc c hb ρ s.heap e m sp fl) (hf : FlOk env fl) (F : FrOk c A s.heap) (hA : ∃ outer, A.frames = some (env :: outer)) (O : Ok c ρ σ s.heap) (X : En c sc env γ ρ s.heap)
    (h0 : ∀ b o, c.h₀.get? b = some o → hb.get? b = some o) (hdom : ∀ b o, hb.get? b = some o → ∃ o', s.heap.get? b = some o') {Q : Unit → Shared → Prop} {E : Value → Shared → Prop}
    (hQ : ∀ h', IsExc c hb ρ h' e m sp (some .none) → Kept c hb ρ σ sc env γ s.heap h' → Q () { s with heap := h' }) :
    wpAny (model c.prog c.w) A (leaving env e) Q E s := by
  unfold leaving
  refine wpAny_bind (note_ok x hf F hA O X h0 hdom fun h' L hL x' K => ?_)
  exact setFlight_ok (s := { s with heap := h' }) none x' K.ok K.en h0 K.dom fun h'' x'' K'' => hQ h'' x'' (K.trans K'')
end
end Mine
end
section
open PySem PySem.W PyProof.Rows PySem.Calls PySem.SeqAt
set_option maxRecDepth 100000
set_option linter.unusedVariables false
set_option autoImplicit false
namespace Mine

theorem Gb.andThen {S S' : List Addr} {ρ ρ₁ ρ₂ : List Addr} {h h₁ h₂ : Heap} (x : Gb S ρ h ρ₁ h₁) (y : Gb S' ρ₁ h₁ ρ₂ h₂) (hS : ∀ a ∈ S, ∃ o, h₁.get? a = some o) (hS' : ∀ a ∈ S', h.get? a = none) : Gb S ρ h ρ₂ h₂ := by
  obtain ⟨m, rfl, hm⟩ := x.more
  obtain ⟨m', rfl, hm'⟩ := y.more
  have nS : ∀ {b o}, h.get? b = some o → b ∉ S' := fun {b o} e hb => by rw [hS' b hb] at e; cases e
  refine ⟨⟨m ++ m', by rw [List.append_assoc], fun a ha => ?_⟩, fun b o e hb hbS => ?_, fun b o e hbS => ?_⟩
  · rcases List.mem_append.mp ha with ha | ha
    · exact hm a ha
    · exact x.fresh hS (hm' a ha)
  · have hb' : b ∉ ρ ++ m := fun hq => by
      rcases List.mem_append.mp hq with hq | hq
      · exact hb hq
      · rw [hm b hq] at e; cases e
    obtain ⟨sl, e1, q1⟩ := x.keep b o e hb hbS
    obtain ⟨sl', e2, q2⟩ := y.keep b _ e1 hb' (nS e)
    exact ⟨sl', e2, fun hd => (q2 hd).trans (q1 hd)⟩
  · obtain ⟨o', e'⟩ := x.dom b o e hbS
    exact y.dom b o' e' (nS e)

section
variable {c : Cx} {n : Nat} {C : Cfg} {A : Around} {ρ ρ' ρ₁ : List Addr} {h₁ : Heap} {σ : Store} {s : Shared} {sc : Sc} {env : PySem.Env} {γ γ' : Env1}

theorem En.gb {S : List Addr} {h h' : Heap} (X : En c sc env γ ρ h) (O : St c.T ρ σ h) (g : Gb S ρ h ρ' h') (hS : ∀ a ∈ Mine.frs c sc env, a ∉ S) (hT : NoTup S h) : En c sc env γ ρ' h' := by
  have hl : env.locals ∉ S := hS _ (.head _)
  have hc : ∀ x ∈ sc.cel, ∀ a, env.cells.lookup (c.T.nm x) = some a → a ∉ S := fun x hx a ha => hS a (.tail _ (List.mem_filterMap.mpr ⟨x, hx, ha⟩))
  refine ⟨X.kind, X.glo, X.bui, X.loc, fun x hx => ?_, X.glb, X.apart, let ⟨m, hm⟩ := X.ns; ⟨m, g.ns O hm hl⟩, fun x v hx => ?_⟩
  · obtain ⟨k1, k2, a, k3, v, k4⟩ := X.cel x hx
    exact ⟨k1, k2, a, k3, v, g.cell O k4 (hc x hx a k3)⟩
  · obtain ⟨val, r, k⟩ := X.vars x v hx
    refine ⟨val, g.rv O hT r, ?_⟩
    rcases k with ⟨k3, m, k4, k5⟩ | ⟨k3, b, k4, k5⟩
    · exact .inl ⟨k3, m, g.ns O k4 hl, k5⟩
    · exact .inr ⟨k3, b, k4, g.cell O k5 (hc x k3 b k4)⟩

/-- a run of a function -/
structure Fx (c : Cx) (n : Nat) (C : Cfg) (env : PySem.Env) (A : Around) (ρ₁ : List Addr) (h₁ : Heap) : Prop where
  hb : ∀ b o, c.h₀.get? b = some o → h₁.get? b = some o
  own : Own c C.sc C.sc env h₁
  room : Room c C.mm A n
  frame : env.frame = some env.locals
  outer : ∃ outer, A.frames = some (env :: outer) ∧ ∀ e ∈ outer, e.scope.kind ≠ .module ∧ ∃ L m, e.frame = some L ∧ c.h₀.get? L = none ∧ h₁.Ns L m
  st1 : ∃ σ₁, St c.T ρ₁ σ₁ h₁
  snd : Snd c n C

theorem Fx.zero (f : Fx c n C env A ρ₁ h₁) {a : Addr} (h : h₁.get? a = none) : c.h₀.get? a = none := by
  cases q : c.h₀.get? a with
  | none => rfl
  | some o => rw [f.hb a o q] at h; cases h
theorem Fx.fr (f : Fx c n C env A ρ₁ h₁) {h : Heap} (G : Grow ρ₁ h₁ ρ h) (X : En c C.sc env γ ρ h) : FrOk c A h := by
  obtain ⟨outer, e, H⟩ := f.outer
  obtain ⟨σ₁, S₁⟩ := f.st1
  refine ⟨_, e, fun x hx => ?_⟩
  rcases List.mem_cons.mp hx with hx | hx
  · subst hx
    obtain ⟨m, hm⟩ := X.ns
    exact ⟨by rw [X.kind]; decide, _, m, f.frame, f.zero f.own.loc, hm⟩
  · obtain ⟨k1, L, m, k2, k3, k4⟩ := H x hx
    exact ⟨k1, L, m, k2, k3, G.ns S₁ k4⟩
theorem Fx.fresh (f : Fx c n C env A ρ₁ h₁) : ∀ a ∈ Mine.frs c C.sc env, h₁.get? a = none := fun a ha => by
  rcases List.mem_cons.mp ha with ha | ha
  · exact ha ▸ f.own.loc
  · obtain ⟨x, hx, e⟩ := List.mem_filterMap.mp ha
    exact f.own.cel x hx a e
theorem Fx.grow (f : Fx c n C env A ρ₁ h₁) {h h' : Heap} (G : Grow ρ₁ h₁ ρ h) (g : Gb (Mine.frs c C.sc env) ρ h ρ' h') : Grow ρ₁ h₁ ρ' h' := G.thenGb g f.fresh

/-- what the end of a statement is to give -/
noncomputable def FinS (c : Cx) (sc : Sc) (env : PySem.Env) (s : Shared) (ρ : List Addr) (o : Out) (γ' : Env1) (σ' : Store) (Q : Flow → Shared → Prop) (E : Value → Shared → Prop) : Prop :=
  ∀ ρ' h' tk, Gb (Mine.frs c sc env) ρ s.heap ρ' h' → Ok c ρ' σ' h' → En c sc env γ' ρ' h' →
    match o with
    | .next => Q .next { s with heap := h', toks := tk }
    | .brk => Q .brk { s with heap := h', toks := tk }
    | .cont => Q .cont { s with heap := h', toks := tk }
    | .ret v => ∀ x, Rv c.T ρ' h' x v → Q (.ret x) { s with heap := h', toks := tk }
    | .exc m sp => ∀ e fl, FlOk env fl → IsExc c s.heap ρ' h' e m sp fl → E e { s with heap := h', toks := tk }

theorem FinS.mid {o : Out} {σ' : Store} {Q : Flow → Shared → Prop} {E : Value → Shared → Prop} (F : FinS c sc env s ρ o γ' σ' Q E) {ρm : List Addr} {hm : Heap} {tk : Nat} (g : Gb (Mine.frs c sc env) ρ s.heap ρm hm) (hS : ∀ a ∈ Mine.frs c sc env, ∃ o, hm.get? a = some o) :
    FinS c sc env { s with heap := hm, toks := tk } ρm o γ' σ' Q E := by
  intro ρ' h' tk' g' O X
  have z := F ρ' h' tk' (g.trans g' hS) O X
  cases o with
  | next => exact z
  | brk => exact z
  | cont => exact z
  | ret v => exact z
  | exc m sp => exact fun e fl hf x => z e fl hf (x.rebase fun a ha => g.fresh hS ha)

noncomputable def GS (c : Cx) (n : Nat) (C : Cfg) (env : PySem.Env) (A : Around) (ρ₁ : List Addr) (h₁ : Heap) (st : IS) : Prop :=
  ∀ (γ : Env1) (σ : Store) (o : Out) (γ' : Env1) (σ' : Store) (s : Shared) (ρ : List Addr) (Q : Flow → Shared → Prop) (E : Value → Shared → Prop), exS C st γ σ = some (o, γ', σ') → Ok c ρ σ s.heap → En c C.sc env γ ρ s.heap → Grow ρ₁ h₁ ρ s.heap →
    FinS c C.sc env s ρ o γ' σ' Q E → wpAny (model c.prog c.w) A (exec (dS c.T st) env) Q E s
noncomputable def GSs (c : Cx) (n : Nat) (C : Cfg) (env : PySem.Env) (A : Around) (ρ₁ : List Addr) (h₁ : Heap) (b : ISs) : Prop :=
  ∀ (γ : Env1) (σ : Store) (o : Out) (γ' : Env1) (σ' : Store) (s : Shared) (ρ : List Addr) (Q : Flow → Shared → Prop) (E : Value → Shared → Prop), exSs C b γ σ = some (o, γ', σ') → Ok c ρ σ s.heap → En c C.sc env γ ρ s.heap → Grow ρ₁ h₁ ρ s.heap →
    FinS c C.sc env s ρ o γ' σ' Q E → wpAny (model c.prog c.w) A (execs (dSs c.T b) env) Q E s

theorem swaps_ok {sc : Sc} {e : IE} {γ : Env1} {σ : Store} {r : V × Store} (h : evE C sc e γ σ = some r) (hc : isComp e = false) (T : Tab) (t : Option Expr) (l : Nat) (env : PySem.Env) : swapsWith (dE T e) t l env = pure false := by
  cases e <;> first | rfl | (cases h; done) | (cases hc; done)
theorem inter_ok {h : Heap} (X : En c sc env γ ρ h) : interactive env = false := by
  unfold interactive; rw [X.kind]; rfl

/-- an expression's value within a statement -/
theorem Fx.ev (f : Fx c n C env A ρ₁ h₁) {e : IE} {v : V} {σ' : Store} (h : evE C C.sc e γ σ = some (v, σ')) (O : Ok c ρ σ s.heap) (X : En c C.sc env γ ρ s.heap) (G : Grow ρ₁ h₁ ρ s.heap) : RunV c A ρ s (eval (dE c.T e) env) v σ' :=
  (ge_all f.snd e C.sc env γ σ v σ' A s ρ h f.room (f.fr G X) O X).1

theorem gs_asg (f : Fx c n C env A ρ₁ h₁) (x : Nat) (px : Pos) (e : IE) (p : Pos) : GS c n C env A ρ₁ h₁ (.asg x px e p) := by
  intro γ σ o γ' σ' s ρ Q E h O X G Fn
  rw [exS_asg] at h
  split at h
  · rename_i hok
    obtain ⟨a, ha, h⟩ := Option.bind_eq_some_iff.mp h
    obtain ⟨γ₂, hst, h⟩ := Option.map_eq_some_iff.mp h
    cases h
    cases hc : isComp e with
    | false =>
      refine wpAny_Assign_Name (f.ev ha O X G _ _ fun val ρ₂ h₂ tk g o r => ?_) (swaps_ok ha hc c.T _ _ env)
      refine store_ok (s := { s with heap := h₂, toks := tk }) o (X.grow O.st g) (G.trans g) f.hb f.own r hst fun h₃ tk₃ o₃ X₃ G₃ _ B₃ => ?_
      exact Fn ρ₂ h₃ tk₃ ((Gb.ofGrow g).trans B₃ ((X.grow O.st g).inFrs fun x h => h)) o₃ X₃
    | true =>
      cases e with
      | comp elt t it cond nms csc free cp =>
        rw [asgOk_comp] at hok
        simp only [Bool.and_eq_true] at hok
        obtain ⟨⟨hx, hline⟩, hnm⟩ := hok
        obtain ⟨⟨hw, hone⟩, a', src, q, hso, ha', hs, hq, hm⟩ := evE_comp ha
        have w := compWf_ok f.snd hw
        obtain ⟨kx, kk⟩ := X.loc x (List.contains_iff_mem.mp hx)
        have hd : dE c.T (.comp elt t it cond nms csc free cp) = .ListComp (dE c.T elt) [⟨dT c.T t, dE c.T it, ifsOf c.T cond, 0⟩] (dScope c.T nms) cp := by cases cond <;> rfl
        unfold mkLst at hm
        split at hm
        · rename_i hl
          cases hm
          have hsw : swapsWith (.ListComp (dE c.T elt) [⟨dT c.T t, dE c.T it, ifsOf c.T cond, 0⟩] (dScope c.T nms) cp) (some (.Name (c.T.nm x) px)) p.line env = pure true := by
            show (pure (env.blockKind == .function && env.kindOf (c.T.nm x) == some .local && px.line == cp.line && !((dScope c.T nms).names.any fun (n, k) => n == c.T.nm x && (k == .local || k == .cell))) : Sem Bool) = pure true
            have h1 : (env.blockKind == .function) = true := by unfold Env.blockKind; rw [X.kind]; rfl
            have h2 : (env.kindOf (c.T.nm x) == some .local) = true := by rw [kk]; rfl
            have h3 : (px.line == cp.line) = true := by rw [beq_iff_eq]; exact beqN.mp hline
            have h4 : ((dScope c.T nms).names.any fun (n, k) => n == c.T.nm x && (k == .local || k == .cell)) = false := by
              rw [List.any_eq_false]
              intro y hy
              obtain ⟨q, hq, rfl⟩ := List.mem_map.mp hy
              intro hb
              have hb1 := (Bool.and_eq_true_iff.mp hb).1
              have := c.T.inj _ _ (w.low q hq) kx (beq_iff_eq.mp hb1)
              have hmem : memN x (nms.map fun q => q.1) = true := memN_iff.mpr (List.mem_map.mpr ⟨q, hq, this⟩)
              rw [hmem] at hnm
              cases hnm
            rw [h1, h2, h3, h4]; rfl
          show wpAny _ _ (exec (.Assign [.Name (c.T.nm x) px] (dE c.T (.comp elt t it cond nms csc free cp)) p) env) Q E s
          rw [hd, exec_Assign_Name_used _ _ _ _ hsw]
          refine wpAny_bind (wpAny_standAt (wpAny_bind ?_))
          show wpAny _ A (do let _ ← comprehension (.ListComp (dE c.T elt) [⟨dT c.T t, dE c.T it, ifsOf c.T cond, 0⟩] (dScope c.T nms) cp) (dScope c.T nms) env _ (newList []) false (eval (dE c.T it) env) (some (assign (.Name (c.T.nm x) px) env))) _ _ s
          refine wpAny_bind (wpAny_mono (wpAny_comprehension_free (use := some (assign (.Name (c.T.nm x) px) env)) (Q := fun _ s' => Q .next s') rfl (folded_ok ha' c.T env) (w.clos X) rfl w.names
            (comp_core (RR := fun acc Cc => compPost (model c.prog c.w) A E (some (assign (.Name (c.T.nm x) px) env)) (fun _ s' => Q .next s') acc Cc) f.snd (ge_all f.snd it) (ge_all f.snd elt) (fun cc _ => ge_all f.snd cc) w ha' hs hq (okL_le hl) hone hso f.room (f.fr G X) O X ?_))
            (fun _ s' hq => wpAny_pure (wpAny_pure hq)) fun _ _ e => e)
          intro D Cc ρ₂ h₂ tk m g o le hn hC
          have X₂ := X.grow O.st g
          refine wpAny_assign_Name (store_ok (s := { s with heap := h₂, toks := tk }) o X₂ (G.trans g) f.hb f.own (last_ref le) hst fun h₃ tk₃ o₃ X₃ G₃ K₃ B₃ => ?_)
          have hCf : Cc ∉ Mine.frs c C.sc env := fun hq => by
            obtain ⟨ob, e⟩ := X.inFrs (fun x h => h) Cc hq
            rw [hC] at e; cases e
          have hn₃ := B₃.ns o.st hn hCf
          refine ⟨m, hn₃, fun h₄ hsb => ?_⟩
          have hex := X₃.inFrs (sc' := C.sc) fun x h => h
          have gb := (Gb.ofGrow g).trans B₃ (X₂.inFrs fun x h => h)
          have gl : Gb [Cc] (ρ₂ ++ [D]) h₃ (ρ₂ ++ [D]) h₄ := Gb.ofExtBut hsb.extBut (.head _)
          have hCt : NoTup [Cc] h₃ := fun a ha => by rw [List.mem_singleton.mp ha]; exact Ns.noTup hn₃
          have h0 : c.h₀.get? Cc = none := by
            cases q : c.h₀.get? Cc with
            | none => rfl
            | some ob => rw [O.base _ _ q] at hC; cases hC
          exact Fn _ h₄ tk₃ (gb.andThen gl hex fun a ha => by rw [List.mem_singleton.mp ha]; exact hC) (o₃.but hsb (Ns.offL o₃.st hn₃) (Ns.noTup hn₃) h0)
            (X₃.gb o₃.st gl (fun a ha hq => hCf (List.mem_singleton.mp hq ▸ ha)) hCt)
        · cases hm
      | _ => cases hc
  · cases h

theorem gs_ret (f : Fx c n C env A ρ₁ h₁) (e : IE) (p : Pos) : GS c n C env A ρ₁ h₁ (.ret e p) := by
  intro γ σ o γ' σ' s ρ Q E h O X G Fn
  rw [exS_ret] at h
  obtain ⟨a, ha, h⟩ := Option.map_eq_some_iff.mp h
  cases h
  exact wpAny_Return_some (f.ev ha O X G _ _ fun val ρ₂ h₂ tk g o r => Fn ρ₂ h₂ tk (Gb.ofGrow g) o (X.grow O.st g) val r)

theorem gs_expr (f : Fx c n C env A ρ₁ h₁) (e : IE) (p : Pos) : GS c n C env A ρ₁ h₁ (.expr e p) := by
  intro γ σ o γ' σ' s ρ Q E h O X G Fn
  rw [exS_expr] at h
  split at h
  · cases h
  · rename_i hc
    obtain ⟨a, ha, h⟩ := Option.bind_eq_some_iff.mp h
    split at h
    · rename_i hv
      cases h
      refine wpAny_Expr (f.ev ha O X G _ _ fun val ρ₂ h₂ tk g o r => ?_) (inter_ok X) (swaps_ok ha (by simpa using hc) c.T _ _ env)
      rw [hv] at r
      cases r
      exact Fn ρ₂ h₂ tk (Gb.ofGrow g) o (X.grow O.st g)
    · cases h

theorem gs_exprC (f : Fx c n C env A ρ₁ h₁) (g : Nat) (fp : Pos) (es : IEs) (pc p : Pos) : GS c n C env A ρ₁ h₁ (.exprC g fp es pc p) := by
  intro γ σ o γ' σ' s ρ Q E h O X G Fn
  rw [exS_exprC] at h
  split at h
  · rename_i hg
    obtain ⟨a, ha, h⟩ := Option.bind_eq_some_iff.mp h
    split at h
    · rename_i hp
      cases h
      refine wpAny_Expr (callF_ok f.snd (ges_all f.snd es) hg ha hp f.room (f.fr G X) O X _ _ fun val ρ₂ h₂ tk g o r => ?_) (inter_ok X) rfl
      cases r
      exact Fn ρ₂ h₂ tk (Gb.ofGrow g) o (X.grow O.st g)
    · rename_i hp
      cases h
      exact wpAny_Expr (callF_ok f.snd (ges_all f.snd es) hg ha hp f.room (f.fr G X) O X _ _ fun e ρ₂ h₂ tk g o r => Fn ρ₂ h₂ tk (Gb.ofGrow g) o (X.grow O.st g) e _ (.inr (.inl rfl)) r) (inter_ok X) rfl
    · cases h
  · cases h

theorem gs_if (f : Fx c n C env A ρ₁ h₁) {a b : ISs} (Ga : GSs c n C env A ρ₁ h₁ a) (Gb' : GSs c n C env A ρ₁ h₁ b) (t : IE) (p : Pos) : GS c n C env A ρ₁ h₁ (.ifS t a b p) := by
  intro γ σ o γ' σ' s ρ Q E h O X G Fn
  rw [exS_ifS] at h
  obtain ⟨r, hr, h⟩ := Option.bind_eq_some_iff.mp h
  unfold evT at hr
  obtain ⟨ra, hra, hr⟩ := Option.bind_eq_some_iff.mp hr
  obtain ⟨bb, hbb, hr⟩ := Option.map_eq_some_iff.mp hr
  cases hr
  refine wpAny_If ((ge_all f.snd t C.sc env γ σ ra.1 ra.2 A s ρ hra f.room (f.fr G X) O X).2 bb hbb _ _ fun ρ₂ h₂ tk g o => ?_)
  have X₂ := X.grow O.st g
  have Fn' := Fn.mid (tk := tk) (Gb.ofGrow g) (X₂.inFrs fun x h => h)
  cases bb with
  | true => exact Ga γ ra.2 _ γ' σ' { s with heap := h₂, toks := tk } ρ₂ Q E h o X₂ (G.trans g) Fn'
  | false => exact Gb' γ ra.2 _ γ' σ' { s with heap := h₂, toks := tk } ρ₂ Q E h o X₂ (G.trans g) Fn'

theorem gss_nil (f : Fx c n C env A ρ₁ h₁) : GSs c n C env A ρ₁ h₁ .nil := by
  intro γ σ o γ' σ' s ρ Q E h O X G Fn
  rw [exSs_nil] at h
  cases h
  exact wpAny_execs_nil (Fn ρ s.heap s.toks (Gb.ofGrow (Grow.refl ..)) O X)
theorem gss_cons (f : Fx c n C env A ρ₁ h₁) {a : IS} {b : ISs} (Ga : GS c n C env A ρ₁ h₁ a) (Gr : GSs c n C env A ρ₁ h₁ b) : GSs c n C env A ρ₁ h₁ (.cons a b) := by
  intro γ σ o γ' σ' s ρ Q E h O X G Fn
  rw [exSs_cons] at h
  obtain ⟨r, hr, h⟩ := Option.bind_eq_some_iff.mp h
  obtain ⟨ro, γr, σr⟩ := r
  refine wpAny_execs_cons (Ga γ σ ro γr σr s ρ _ E hr O X G ?_)
  intro ρ₂ h₂ tk g o₂ X₂
  cases ro with
  | next => exact Gr γr σr o γ' σ' { s with heap := h₂, toks := tk } ρ₂ Q E h o₂ X₂ (f.grow G g) (Fn.mid g (X₂.inFrs fun x h => h))
  | brk => cases h; exact Fn ρ₂ h₂ tk g o₂ X₂
  | cont => cases h; exact Fn ρ₂ h₂ tk g o₂ X₂
  | ret v => cases h; exact fun x rx => Fn ρ₂ h₂ tk g o₂ X₂ x rx
  | exc m sp => cases h; exact fun e fl hf x => Fn ρ₂ h₂ tk g o₂ X₂ e fl hf x
end
end Mine
end
section
open PySem PySem.W PyProof.Rows PySem.Calls PySem.SeqAt
set_option maxRecDepth 100000
set_option linter.unusedVariables false
set_option linter.unusedSimpArgs false
set_option autoImplicit false
namespace Mine

noncomputable def codes (xs : List (Nat × Pos)) : List Nat := xs.map fun q => q.1
noncomputable def canStore (sc : Sc) (x : Nat) : Bool := sc.loc.contains x || sc.cel.contains x

theorem store_some {sc : Sc} {x : Nat} {v : V} {γ γ' : Env1} : store sc x v γ = some γ' ↔ canStore sc x = true ∧ γ' = (x, v) :: γ.filter fun q => !(Nat.beq q.1 x) := by
  unfold store canStore
  constructor
  · intro h
    split at h
    · rename_i hc; cases h; exact ⟨hc, rfl⟩
    · cases h
  · rintro ⟨h, rfl⟩
    rw [if_pos h]
theorem storeL_can {sc : Sc} : ∀ {xs : List (Nat × Pos)} {l : List V} {γ γ' : Env1}, storeL sc xs l γ = some γ' → ∀ q ∈ xs, canStore sc q.1 = true
  | [], _, _, _, _, q, hq => by cases hq
  | x :: xs, [], _, _, e, _, _ => by cases e
  | x :: xs, v :: l, γ, γ', e, q, hq => by
    obtain ⟨γ₁, e1, e2⟩ := Option.bind_eq_some_iff.mp e
    rcases List.mem_cons.mp hq with h | h
    · exact h ▸ (store_some.mp e1).1
    · exact storeL_can e2 q h
theorem storeL_ex {sc : Sc} : ∀ {xs : List (Nat × Pos)} {l : List V} (γ : Env1), xs.length = l.length → (∀ q ∈ xs, canStore sc q.1 = true) → ∃ γ', storeL sc xs l γ = some γ'
  | [], [], γ, _, _ => ⟨γ, rfl⟩
  | [], _ :: _, _, h, _ => by simp at h
  | _ :: _, [], _, h, _ => by simp at h
  | x :: xs, v :: l, γ, h, H => by
    obtain ⟨γ', e⟩ := storeL_ex (xs := xs) (l := l) ((x.1, v) :: γ.filter fun q => !(Nat.beq q.1 x.1)) (by simpa using h) fun q hq => H q (.tail _ hq)
    exact ⟨γ', Option.bind_eq_some_iff.mpr ⟨_, store_some.mpr ⟨H x (.head _), rfl⟩, e⟩⟩
theorem storeL_look {sc : Sc} : ∀ {xs : List (Nat × Pos)} {l : List V} {γ γ' : Env1}, storeL sc xs l γ = some γ' → (codes xs).Pairwise (· ≠ ·) → ∀ (y : Nat) (w : V), γ'.lookup y = some w ↔ ((y, w) ∈ (codes xs).zip l ∨ (y ∉ codes xs ∧ γ.lookup y = some w))
  | [], [], γ, γ', e, _, y, w => by cases e; simp [codes]
  | [], _ :: _, _, _, e, _, _, _ => by cases e
  | _ :: _, [], _, _, e, _, _, _ => by cases e
  | x :: xs, v :: l, γ, γ', e, P, y, w => by
    obtain ⟨γ₁, e1, e2⟩ := Option.bind_eq_some_iff.mp e
    obtain ⟨P1, P2⟩ := List.pairwise_cons.mp (show (x.1 :: codes xs).Pairwise (· ≠ ·) from P)
    have ih := storeL_look e2 P2 y w
    rw [ih]
    obtain ⟨_, rfl⟩ := store_some.mp e1
    show _ ↔ ((y, w) ∈ (x.1 :: codes xs).zip (v :: l) ∨ (y ∉ x.1 :: codes xs ∧ γ.lookup y = some w))
    rw [List.zip_cons_cons, List.mem_cons, List.mem_cons, List.lookup_cons]
    by_cases hy : y = x.1
    · subst hy
      have hn : x.1 ∉ codes xs := fun h => P1 _ h rfl
      have hz : ∀ w, (x.1, w) ∉ (codes xs).zip l := fun w h => hn (List.of_mem_zip h).1
      simp only [beq_self_eq_true, hn, not_false_eq_true, true_and, hz, false_or, or_false, Prod.mk.injEq, not_true_eq_false, false_and, true_or, not_true]
      constructor
      · intro h; cases h; rfl
      · intro h; rw [h]
    · have hb : (y == x.1) = false := beq_eq_false_iff_ne.mpr hy
      rw [hb]
      simp only [lookup_filter (Ne.symm hy), Prod.mk.injEq, hy, false_and, false_or, not_or, not_false_eq_true, true_and]
theorem zip_snoc {α β : Type} : ∀ {a : List α} {b : List β} (x : α) (y : β), a.length = b.length → (a ++ [x]).zip (b ++ [y]) = a.zip b ++ [(x, y)]
  | [], [], _, _, _ => rfl
  | [], _ :: _, _, _, h => by simp at h
  | _ :: _, [], _, _, h => by simp at h
  | p :: a, q :: b, x, y, h => by
    show (p, q) :: (a ++ [x]).zip (b ++ [y]) = (p, q) :: (a.zip b ++ [(x, y)])
    rw [zip_snoc x y (by simpa using h)]
theorem zip_rev {α β : Type} : ∀ {a : List α} {b : List β}, a.length = b.length → a.reverse.zip b.reverse = (a.zip b).reverse
  | [], [], _ => rfl
  | [], _ :: _, h => by simp at h
  | _ :: _, [], h => by simp at h
  | p :: a, q :: b, h => by
    rw [List.reverse_cons, List.reverse_cons, zip_snoc p q (by simpa using h), zip_rev (by simpa using h), List.zip_cons_cons, List.reverse_cons]

theorem codes_rev (xs : List (Nat × Pos)) : codes xs.reverse = (codes xs).reverse := by unfold codes; rw [List.map_reverse]
/-- the stores in the other order -/
theorem storeL_rev {sc : Sc} {xs : List (Nat × Pos)} {l : List V} {γ γ' : Env1} (e : storeL sc xs l γ = some γ') (P : (codes xs).Pairwise (· ≠ ·)) : ∃ γ'', storeL sc xs.reverse l.reverse γ = some γ'' ∧ ∀ y w, γ'.lookup y = some w → γ''.lookup y = some w := by
  have hl := storeL_len e
  obtain ⟨γ'', e''⟩ := storeL_ex (sc := sc) (xs := xs.reverse) (l := l.reverse) γ (by simpa using hl) fun q hq => storeL_can e q (List.mem_reverse.mp hq)
  refine ⟨γ'', e'', fun y w h => ?_⟩
  have P' : (codes xs.reverse).Pairwise (· ≠ ·) := by
    rw [codes_rev, List.pairwise_reverse]
    exact P.imp fun h => Ne.symm h
  rw [storeL_look e'' P' y w]
  rw [storeL_look e P y w] at h
  rw [codes_rev, zip_rev (by unfold codes; simpa using hl), List.mem_reverse, List.mem_reverse]
  exact h

mutual
theorem hard_const (T : Tab) : ∀ {k : Nat} {e : IE}, hardE T.n k e = true → constantsAlone k (dE T e) = false
  | k, .lst _ _, _ => by cases k <;> rfl
  | k, .call _ _ _ _, _ => by cases k <;> rfl
  | k, .bcall _ _ _ _ _, _ => by cases k <;> rfl
  | k, .comp _ _ _ cond _ _ _ _, _ => by cases k <;> cases cond <;> rfl
  | k, .lv x _, h => by
    have hx : x < T.n := by
      cases k <;> exact Nat.le_of_ble_eq_true h
    cases k <;> exact T.dbg x hx
  | k + 1, .idx e i p, h => by
    show (constantsAlone k (dE T e) && constantsAlone k (dE T i)) = false
    rw [hard_const T (show hardE T.n k e = true from h)]; rfl
  | k + 1, .tup es _ _, h => hard_consts T (show hardEs T.n k es = true from h)
theorem hard_consts (T : Tab) : ∀ {k : Nat} {es : IEs}, hardEs T.n k es = true → (dEs T es).all (constantsAlone k) = false
  | k, .nil, h => by cases k <;> cases h
  | k, .cons e r, h => by
    show (constantsAlone k (dE T e) && (dEs T r).all (constantsAlone k)) = false
    have h' : (hardE T.n k e || hardEs T.n k r) = true := by cases k <;> exact h
    rcases Bool.or_eq_true_iff.mp h' with q | q
    · rw [hard_const T q]; rfl
    · rw [hard_consts T q, Bool.and_false]
end
theorem fm_all {α : Type} {f : α → Option Str} {g : α → Str} (H : ∀ x y, f x = some y → y = g x) : ∀ {l : List α}, (l.filterMap f).length = l.length → l.filterMap f = l.map g
  | [], _ => rfl
  | x :: l, h => by
    cases hx : f x with
    | none =>
      rw [List.filterMap_cons, hx] at h
      have := List.length_filterMap_le f l
      simp at h
      omega
    | some y =>
      rw [List.filterMap_cons, hx] at h ⊢
      simp only [List.map_cons]
      rw [fm_all H (by simpa using h), H x y hx]

theorem sw_ok {n : Nat} {T : Tab} {env : PySem.Env} (hn : n = T.n) {xs : List (Nat × Pos)} {k : Nat} {pt : Pos} {e : IE} (h : asgTok n xs e = true) (hq : ∀ x, e ≠ .opq x) :
    swappedStores [.Tuple (xs.map fun q => .Name (T.nm q.1) q.2) k pt] (dE T e) env = pure none ∨ swappedStores [.Tuple (xs.map fun q => .Name (T.nm q.1) q.2) k pt] (dE T e) env = pure (some (xs.map fun q => T.nm q.1)) := by
  subst hn
  unfold asgTok at h
  have h2 := (Bool.and_eq_true_iff.mp h).2
  have gen : ∀ v : Expr, (∀ vs k p, v = .Tuple vs k p → vs.all (constantsAlone 8) = false) → swappedStores [.Tuple (xs.map fun q => .Name (T.nm q.1) q.2) k pt] v env = pure none ∨ swappedStores [.Tuple (xs.map fun q => .Name (T.nm q.1) q.2) k pt] v env = pure (some (xs.map fun q => T.nm q.1)) := by
    intro v hv
    cases v with
    | Tuple vs k' p' =>
      have hc := hv vs k' p' rfl
      unfold swappedStores; dsimp only
      split
      · exact .inl rfl
      · split
        · exact .inl rfl
        · split
          · exact .inl rfl
          · rename_i hnames
            split
            · exact .inl rfl
            · split
              · rename_i hq; rw [hc] at hq; cases hq
              · refine .inr ?_
                have hlen := bne_eq_false_iff_eq.mp (Bool.or_eq_false_iff.mp ((Bool.not_eq_true _).mp hnames)).1
                have hlen' : ((xs.map fun q => Expr.Name (T.nm q.1) q.2).filterMap fun x => match x with
                    | .Name id pos => if (env.kindOf id == some NameKind.local && pos.line == (((xs.map fun q => Expr.Name (T.nm q.1) q.2).head?.map (·.pos.line)).getD 0)) = true then some id else none
                    | _ => none).length = (xs.map fun q => Expr.Name (T.nm q.1) q.2).length := by
                  exact hlen
                have key := fm_all (g := fun x : Expr => match x with | .Name id _ => id | _ => Str.empty) (fun x y hxy => by
                  revert hxy
                  cases x <;> intro hxy <;> first | (cases hxy; done) | (simp only at hxy; split at hxy <;> first | (cases hxy; rfl) | (cases hxy; done))) hlen'
                refine congrArg (fun z => (pure (some z) : Sem (Option (List Str)))) (key.trans ?_)
                rw [List.map_map]
                rfl
    | _ => exact .inl rfl
  refine gen _ fun vs k' p' hv => ?_
  cases e with
  | tup es k2 p2 =>
    cases hv
    exact hard_consts T h2
  | comp elt t it cond nms csc free cp => cases cond <;> cases hv
  | opq e => exact absurd rfl (hq e)
  | _ => cases hv

section
variable {c : Cx} {n : Nat} {C : Cfg} {A : Around} {ρ ρ' ρ₁ : List Addr} {h₁ : Heap} {σ : Store} {s : Shared} {sc : Sc} {env : PySem.Env} {γ γ' : Env1}

theorem swaps_tup (v : Expr) (a : List Expr) (k : Nat) (pt : Pos) (l : Nat) (env : PySem.Env) : swapsWith v (some (.Tuple a k pt)) l env = pure false := by
  cases v <;> rfl
theorem swaps_sub (v : Expr) (a b : Expr) (pt : Pos) (l : Nat) (env : PySem.Env) : swapsWith v (some (.Subscript a b pt)) l env = pure false := by
  cases v <;> rfl

theorem assignStores_none (env : PySem.Env) (v : Value) (st : List (Value → Sem Unit)) : assignStores env v none st = (do assignAll v st; pure .next) := rfl
theorem assignStores_some (env : PySem.Env) (v : Value) (names : List Str) (st : List (Value → Sem Unit)) : assignStores env v (some names) st = (do
    rule "assign.swapped-stores"
    let items ← unpackItems v names.length none
    assignInOrder (names.reverse.map fun n => bindName env n) items.reverse
    pure .next) := rfl
theorem assignEach_tup (a : List Expr) (k : Nat) (pt : Pos) (env : PySem.Env) (v : Value) : assignAll v ((assignEach [.Tuple a k pt] env).map (·.2)) = assign (.Tuple a k pt) env v := rfl
theorem gs_asgT (f : Fx c n C env A ρ₁ h₁) (xs : List (Nat × Pos)) (k : Nat) (pt : Pos) (e : IE) (p : Pos) : GS c n C env A ρ₁ h₁ (.asgT xs k pt e p) := by
  intro γ σ o γ' σ' s ρ Q E h O X G Fn
  rw [exS_asgT] at h
  split at h
  · rename_i hok
    have hmm := (Bool.and_eq_true_iff.mp hok).2
    have hok := (Bool.and_eq_true_iff.mp hok).1
    obtain ⟨a, ha, h⟩ := Option.bind_eq_some_iff.mp h
    split at h
    · rename_i l hl
      obtain ⟨γ₂, hst, h⟩ := Option.map_eq_some_iff.mp h
      cases h
      have hdis : (codes xs).Pairwise (· ≠ ·) := distinct_pw (by unfold asgTok at hok; exact (Bool.and_eq_true_iff.mp hok).1)
      have hlen := storeL_len hst
      have hd : dS c.T (.asgT xs k pt e p) = .Assign [.Tuple (xs.map fun q => .Name (c.T.nm q.1) q.2) k pt] (dE c.T e) p := rfl
      rw [hd, exec_Assign_arm]
      refine wpAny_bind (wpAny_standAt ?_)
      rw [show swapsWithSole [.Tuple (xs.map fun q => Expr.Name (c.T.nm q.1) q.2) k pt] (dE c.T e) p.line env = pure false from swaps_tup (dE c.T e) (xs.map fun q => Expr.Name (c.T.nm q.1) q.2) k pt p.line env]
      refine wpAny_bind (wpAny_pure ?_)
      rw [if_neg (by decide)]
      refine wpAny_bind (f.ev ha O X G _ _ fun val ρ₂ h₂ tk g o r => ?_)
      rw [hl] at r
      obtain ⟨ad, vs, nn, rfl, gg, r1, hT⟩ := r.isT
      have X₂ := X.grow O.st g
      rcases sw_ok (T := c.T) (env := env) f.snd.num (k := k) (pt := pt) hok (fun x hx => by subst hx; cases ha) with hsw | hsw
      · rw [hsw]
        refine wpAny_bind (wpAny_pure ?_)
        rw [assignStores_none, assignEach_tup]
        refine wpAny_bind ?_
        rw [show Expr.Tuple (xs.map fun q => Expr.Name (c.T.nm q.1) q.2) k pt = dT c.T (.many xs k pt) from rfl]
        refine bindT_ok (s := { s with heap := h₂, toks := tk }) (t := .many xs k pt) (fun _ => f.room.handled hmm) o X₂ (G.trans g) f.hb f.own r hst fun h₃ tk₃ o₃ X₃ G₃ _ B₃ => wpAny_pure ?_
        exact Fn ρ₂ h₃ tk₃ ((Gb.ofGrow g).trans B₃ (X₂.inFrs fun x h => h)) o₃ X₃
      · rw [hsw]
        refine wpAny_bind (wpAny_pure ?_)
        rw [assignStores_some]
        refine wpAny_bind (wpAny_rule ?_)
        have hsz : (xs.map fun q => c.T.nm q.1).length = vs.toArray.size := by rw [List.length_map, List.size_toArray, r1.length, hlen]
        rw [hsz]
        refine wpAny_bind (wpAny_unpackItems_tuple (s := { s with heap := h₂, toks := tk }) (f.room.handled hmm) hT fun h₃ hs₃ => ?_)
        have hk := unpackQ hs₃
        obtain ⟨γr, hr, hlook⟩ := storeL_rev hst hdis
        refine wpAny_bind (storeL_ok xs.reverse (s := { s with heap := h₃, toks := tk }) (vals := vs.reverse) (l := l.reverse) (o.ext hk) (X₂.grow o.st (Grow.ext hk)) ((G.trans g).trans (Grow.ext hk)) f.hb f.own (r1.reverse.mono ⟨[], by simp⟩ fun b vs n e => hk _ _ e) hr _ ?_ ?_ fun h₄ tk₄ o₄ X₄ G₄ _ B₄ => wpAny_pure ?_)
        · simp
        · intro i ff q h1 h2 v Q E s hw
          rw [← List.map_reverse, List.map_map, List.getElem?_map, h2] at h1
          cases h1
          exact wpAny_bindName hw
        · have X₃ := X₂.grow o.st (Grow.ext hk)
          exact Fn ρ₂ h₄ tk₄ (((Gb.ofGrow g).trans (Gb.ofGrow (Grow.ext hk)) (X₂.inFrs fun x h => h)).trans B₄ (X₃.inFrs fun x h => h)) o₄ (X₄.look hlook)
    · cases h
  · cases h

theorem gs_asgI (f : Fx c n C env A ρ₁ h₁) (oe ie : IE) (pt : Pos) (e : IE) (p : Pos) : GS c n C env A ρ₁ h₁ (.asgI oe ie pt e p) := by
  intro γ σ o γ' σ' s ρ Q E h O X G Fn
  rw [exS_asgI] at h
  obtain ⟨v, hv, h⟩ := Option.bind_eq_some_iff.mp h
  obtain ⟨a, ha, h⟩ := Option.bind_eq_some_iff.mp h
  obtain ⟨b, hb, h⟩ := Option.bind_eq_some_iff.mp h
  split at h
  · rename_i k i hak hbi
    split at h
    · rename_i l hl
      split at h
      · rename_i hc
        cases h
        simp only [Bool.and_eq_true, decide_eq_true_eq] at hc
        refine wpAny_Assign_Subscript (f.ev hv O X G _ _ fun x ρ₂ h₂ tk₂ g₂ o₂ rx => ?_) (swaps_sub (dE c.T e) (dE c.T oe) (dE c.T ie) pt p.line env)
        have X₂ := X.grow O.st g₂
        refine f.ev (s := { s with heap := h₂, toks := tk₂ }) ha o₂ X₂ (G.trans g₂) _ _ fun y ρ₃ h₃ tk₃ g₃ o₃ ry => ?_
        have X₃ := X₂.grow o₂.st g₃
        refine f.ev (s := { s with heap := h₃, toks := tk₃ }) hb o₃ X₃ ((G.trans g₂).trans g₃) _ _ fun z ρ₄ h₄ tk₄ g₄ o₄ rz => ?_
        have X₄ := X₃.grow o₃.st g₄
        rw [hak] at ry
        rw [hbi] at rz
        cases rz with | int _ u =>
        obtain ⟨t, vs, n', rfl, ht, gl, r1, hL⟩ := o₄.st.isL (ry.grow g₄ o₃.st) hl
        have hle := okL_le hc.2
        have hlt : i.toNat < vs.length := by rw [r1.length]; exact hc.1.2
        refine ki_setAt (s := { s with heap := h₄, toks := tk₄ }) gl hc.1.1 (by omega) (by rw [List.size_toArray]; omega) ?_
        have q := IsL.update gl fun xs => xs.setIfInBounds i.toNat x
        have e1 : vs.toArray.setIfInBounds i.toNat x = (vs.set i.toNat x).toArray := by
          apply Array.toList_inj.mp
          simp
        simp only [e1] at q
        have rs : RvL c.T ρ₄ h₄ (vs.set i.toNat x) (l.set i.toNat v.1) := by
          have rx₄ := (rx.grow g₃ o₂.st).grow g₄ o₃.st
          refine RvL.mk' (by simp [r1.length]) fun j y w h1 h2 => ?_
          by_cases hj : j = i.toNat
          · subst hj
            rw [List.getElem?_set_self hlt] at h1
            rw [List.getElem?_set_self hc.1.2] at h2
            cases h1; cases h2
            exact rx₄
          · rw [List.getElem?_set_ne (Ne.symm hj)] at h1 h2
            exact r1.get h1 h2
        have gs := Grow.set (List.mem_of_getElem? ht) (Heap.SameBut.update ..) q
        exact Fn ρ₄ _ tk₄ (Gb.ofGrow (((g₂.trans g₃).trans g₄).trans gs)) (o₄.set ht (Heap.SameBut.update ..) q rs) (X₄.grow o₄.st gs)
      · cases h
    · cases h
  · cases h
end
end Mine
end
section
open PySem PySem.W PyProof.Rows PySem.Calls PySem.SeqAt
set_option maxRecDepth 100000
set_option linter.unusedVariables false
set_option autoImplicit false
namespace Mine
section
variable {c : Cx} {n : Nat} {C : Cfg} {A : Around} {ρ ρ' ρ₁ : List Addr} {h₁ : Heap} {σ : Store} {s : Shared} {sc : Sc} {env : PySem.Env} {γ γ' : Env1}

theorem src_ok (f : Fx c n C env A ρ₁ h₁) {it : It} {src : Src} {σ' : Store} (e : itSrc C C.sc it γ σ = some (src, σ')) (O : Ok c ρ σ s.heap) (X : En c C.sc env γ ρ s.heap) (G : Grow ρ₁ h₁ ρ s.heap) {K : Value → Shared → Prop} {E : Value → Shared → Prop}
    (hK : ∀ I ρ' h' tk, Grow ρ s.heap ρ' h' → Ok c ρ' σ' h' → ItAt c.T I src 0 ρ' h' → s.heap.get? I = none → K (.ref I) { s with heap := h', toks := tk }) :
    wpAny (model c.prog c.w) A (eval (dIt c.T it) env) (fun x s₁ => wpAny (model c.prog c.w) A (pyIter x) K E s₁) E s := by
  cases it with
  | over e' =>
    rw [itSrc] at e
    obtain ⟨a, ha, e⟩ := Option.bind_eq_some_iff.mp e
    obtain ⟨sr, hs, e⟩ := Option.map_eq_some_iff.mp e
    cases e
    refine f.ev ha O X G _ _ fun x ρ₂ h₂ tk g o r => ?_
    refine iter_ok (s := { s with heap := h₂, toks := tk }) o r hs fun ob vs hob I => ?_
    exact hK _ ρ₂ _ tk (g.trans (Grow.push ..)) (o.push _) I (push_fresh g (fresh_size h₂))
  | range x rp e' p =>
    rw [itSrc] at e
    split at e
    · rename_i hx
      obtain ⟨a, ha, e⟩ := Option.bind_eq_some_iff.mp e
      split at e
      · rename_i i hi
        split at e
        · rename_i hc
          cases e
          obtain ⟨h1, h2⟩ := f.snd.bi .range x (Bool.and_eq_true_iff.mp hx).2
          simp only [Bool.and_eq_true, decide_eq_true_eq] at hc
          refine Call_Name rfl (bui_ok O X (Bool.and_eq_true_iff.mp hx).1 h1 h2 ?_)
          have hs : backTo p (starEach [dE c.T e'] env) = [(false, eval (dE c.T e') env)] := by
            rw [star_cons ha c.T]; rfl
          rw [hs]
          refine PySem.callWith_type1 (f.ev ha O X G _ _ fun z ρ₂ h₂ tk g o r => ?_)
          rw [hi] at r
          cases r with | int _ u =>
          refine call_range_1 ?_
          refine wpAny_pyIter_range (IsRange.new ..) (small_one (by decide) (by decide) (by omega) (by omega)) ?_
          have hsz : Builtin.Range.rangeSize 0 i 1 = (i.toNat : Int) := by rw [rangeSize_one]; split <;> omega
          refine hK _ ρ₂ _ _ ((g.trans (Grow.push ..)).trans (Grow.push ..)) ((o.push _).push _) ?_ (push_fresh (g.trans (Grow.push ..)) (fresh_size _))
          show PySem.IsRangeIter _ _ _ _ _
          have e2 : ((i.toNat : Nat) : Int) - ((0 : Nat) : Int) = Builtin.Range.rangeSize 0 i 1 := by rw [hsz]; simp
          rw [e2]
          exact Heap.get?_push_size _ rfl
        · cases e
      · cases e
    · cases e

/-- an exception goes through a loop -/
theorem exc_loop (f : Fx c n C env A ρ₁ h₁) {e : Value} {m sp : V} {fl : Option Value} {σ' : Store} {h' : Heap} {tk : Nat} {Q : Flow → Shared → Prop} {E : Value → Shared → Prop} (O : Ok c ρ σ s.heap) (X : En c C.sc env γ ρ s.heap) (G : Grow ρ₁ h₁ ρ s.heap) (Fn : FinS c C.sc env s ρ (.exc m sp) γ' σ' Q E)
    (g : Gb (Mine.frs c C.sc env) ρ s.heap ρ' h') (O' : Ok c ρ' σ' h') (X' : En c C.sc env γ' ρ' h') (hf : FlOk env fl) (x : IsExc c s.heap ρ' h' e m sp fl) :
    notedBy (model c.prog c.w) A env (fun e s' => cameBackBy (model c.prog c.w) A env E e s') e { s with heap := h', toks := tk } := by
  obtain ⟨outer, hfr, _⟩ := f.outer
  have hdom : ∀ b o, s.heap.get? b = some o → ∃ o', h'.get? b = some o' := fun b o e => by
    by_cases hb : b ∈ Mine.frs c C.sc env
    · exact X'.inFrs (fun x h => h) b hb
    · exact g.dom b o e hb
  refine note_ok (s := { s with heap := h', toks := tk }) x hf (f.fr (f.grow G g) X') ⟨outer, hfr⟩ O' X' O.base hdom fun h₂ L hL x₂ k₂ => ?_
  refine back_ok (s := { s with heap := h₂, toks := tk }) x₂ hL k₂.ok k₂.en O.base k₂.dom fun h₃ x₃ k₃ => ?_
  exact Fn ρ' h₃ tk (k₃.gb _ _ (k₂.gb _ _ g)) k₃.ok k₃.en e _ (.inr (.inr ⟨L, hL, rfl⟩)) x₃

/-- where a loop over items stands; where a while loop stands -/
inductive FInv (c : Cx) (C : Cfg) (env : PySem.Env) (ρ : List Addr) (s : Shared) (src : Src) (I : Addr) (bd : V → Env1 → Store → ExR) (o : Out) (γ' : Env1) (σ' : Store) (k : Nat) (s' : Shared) : Prop
  | mk (i : Nat) (γi : Env1) (σi : Store) (ρ' : List Addr) (h' : Heap) (tk : Nat) (q0 : s' = { s with heap := h', toks := tk }) (q1 : Gb (Mine.frs c C.sc env) ρ s.heap ρ' h') (q2 : Ok c ρ' σi h') (q3 : En c C.sc env γi ρ' h') (q4 : ItAt c.T I src i ρ' h') (q5 : loopF bd src k i γi σi = some (o, γ', σ'))
inductive WInv (c : Cx) (C : Cfg) (env : PySem.Env) (ρ : List Addr) (s : Shared) (ts : Env1 → Store → Option (Bool × Store)) (bd : Env1 → Store → ExR) (o : Out) (γ' : Env1) (σ' : Store) (k : Nat) (s' : Shared) : Prop
  | mk (γi : Env1) (σi : Store) (ρ' : List Addr) (h' : Heap) (tk : Nat) (q0 : s' = { s with heap := h', toks := tk }) (q1 : Gb (Mine.frs c C.sc env) ρ s.heap ρ' h') (q2 : Ok c ρ' σi h') (q3 : En c C.sc env γi ρ' h') (q5 : loopW ts bd k γi σi = some (o, γ', σ'))

theorem gs_for (f : Fx c n C env A ρ₁ h₁) {b : ISs} (Gbd : GSs c n C env A ρ₁ h₁ b) (t : Tgt) (it : It) (p : Pos) : GS c n C env A ρ₁ h₁ (.forS t it b p) := by
  intro γ σ o γ' σ' s ρ Q E h O X G Fn
  rw [exS_forS] at h
  split at h
  rotate_left
  · cases h
  rename_i hmm
  have hhn := f.room.handled hmm
  obtain ⟨r, hr, h⟩ := Option.bind_eq_some_iff.mp h
  obtain ⟨src, σ₀⟩ := r
  have hfold : ∀ x, foldedSetIterable (dIt c.T it) env x = pure x := by
    cases it with
    | over e' =>
      unfold itSrc at hr
      obtain ⟨a, ha, _⟩ := Option.bind_eq_some_iff.mp hr
      exact folded_ok ha c.T env
    | range x rp e' p => exact fun _ => rfl
  have hd : dS c.T (.forS t it b p) = .For (dT c.T t) (dIt c.T it) (dSs c.T b) [] p := rfl
  rw [hd]
  refine wpAny_For (src_ok f hr O X G fun I ρ₀ h₀ tk₀ g₀ o₀ i₀ fI => ?_) hfold
  have hex := X.inFrs (sc' := C.sc) fun x h => h
  have hIf : I ∉ Mine.frs c C.sc env := fun hq => by
    obtain ⟨ob, e⟩ := hex I hq
    rw [fI] at e; cases e
  have hI0 : c.h₀.get? I = none := by
    cases q : c.h₀.get? I with
    | none => rfl
    | some ob => rw [O.base _ _ q] at fI; cases fI
  refine codeAny_forLoop_any (FInv c C env ρ s src I (fun x γ₁ σ₁ => (bindT C.sc t x γ₁).bind fun γ' => exSs C b γ' σ₁) o γ' σ') ?_ FU ⟨0, γ, σ₀, ρ₀, h₀, tk₀, rfl, Gb.ofGrow g₀, o₀, X.grow O.st g₀, i₀, h⟩
  rintro k s' ⟨i, γi, σi, ρ', h', tk, rfl, g, oi, Xi, ii, hl⟩
  cases k with
  | zero => cases hl
  | succ k =>
  rw [loopF_succ] at hl
  cases hs : srcAt src σi i with
  | none => rw [hs] at hl; cases hl
  | some r =>
  rw [hs] at hl
  have hoff := ii.off oi.st
  have step : ∀ {h''}, Heap.ExtBut I h' h'' → Gb (Mine.frs c C.sc env) ρ s.heap ρ' h'' ∧ Ok c ρ' σi h'' ∧ En c C.sc env γi ρ' h'' := fun {h''} hx =>
    ⟨g.andThen (Gb.ofExtBut (S := [I]) hx (.head _)) (Xi.inFrs fun x h => h) fun a ha => by rw [List.mem_singleton.mp ha]; exact fI, oi.extBut hx hoff ii.apart hI0, Xi.extBut hx ii.apart⟩
  refine next_ok (s := { s with heap := h', toks := tk }) f.room.ends (.inl hhn) oi ii hs (fun hrn h'' hx => ?_) (fun v hrv x h'' tk'' rv ii'' hsb => ?_)
  · subst hrn
    cases hl
    obtain ⟨g2, o2, X2⟩ := step hx
    exact wpAny_execs_nil (Fn ρ' h'' tk g2 o2 X2)
  · subst hrv
    obtain ⟨g2, o2, X2⟩ := step hsb.extBut
    obtain ⟨rb, hrb, hl⟩ := Option.bind_eq_some_iff.mp hl
    obtain ⟨γb, hγb, hrb⟩ := Option.bind_eq_some_iff.mp hrb
    obtain ⟨ob, γo, σo⟩ := rb
    refine owned_ok (s := { s with heap := h'', toks := tk'' }) ii'' ?_
    have rv'' : Rv c.T ρ' h'' x v := rv.mono ⟨[], by simp⟩ fun b vs m e => hsb.extBut b _ (fun z => ii.noTup _ _ (z ▸ e)) e
    refine bindT_ok (s := { s with heap := h'', toks := tk'' }) (fun _ => hhn) o2 X2 (f.grow G g2) f.hb f.own rv'' hγb fun h₃ tk₃ o₃ X₃ G₃ K₃ B₃ => ?_
    have g₃ := g2.trans B₃ (X2.inFrs fun x h => h)
    have ii₃ : ItAt c.T I src (i + 1) ρ' h₃ := ii''.gb o2.st B₃ hIf (X2.noTupFrs fun x h => h)
    refine Gbd γb σi ob γo σo { s with heap := h₃, toks := tk₃ } ρ' _ _ hrb o₃ X₃ G₃ ?_
    intro ρ₄ h₄ tk₄ g₄ o₄ X₄
    have gt := g₃.trans g₄ (X₃.inFrs fun x h => h)
    have ii₄ : ItAt c.T I src (i + 1) ρ₄ h₄ := ii₃.gb o₃.st g₄ hIf (X₃.noTupFrs fun x h => h)
    cases ob with
    | next => exact ⟨k, Nat.lt_succ_self _, i + 1, γo, σo, ρ₄, h₄, tk₄, rfl, gt, o₄, X₄, ii₄, hl⟩
    | cont => exact ⟨k, Nat.lt_succ_self _, i + 1, γo, σo, ρ₄, h₄, tk₄, rfl, gt, o₄, X₄, ii₄, hl⟩
    | brk => cases hl; exact Fn ρ₄ h₄ tk₄ gt o₄ X₄
    | ret v => cases hl; exact fun x rx => Fn ρ₄ h₄ tk₄ gt o₄ X₄ x rx
    | exc m sp =>
      cases hl
      intro e fl hf x
      exact exc_loop (s := s) f O X G Fn gt o₄ X₄ hf (x.rebase fun a ha => g₃.fresh (X₃.inFrs fun x h => h) ha)

theorem gs_while (f : Fx c n C env A ρ₁ h₁) {b : ISs} (Gbd : GSs c n C env A ρ₁ h₁ b) (t : IE) (p : Pos) : GS c n C env A ρ₁ h₁ (.whileS t b p) := by
  intro γ σ o γ' σ' s ρ Q E h O X G Fn
  rw [exS_whileS] at h
  have hd : dS c.T (.whileS t b p) = .While (dE c.T t) (dSs c.T b) [] p := rfl
  rw [hd]
  refine wpAny_While ?_
  refine codeAny_whileLoop (WInv c C env ρ s (evT C C.sc t) (exSs C b) o γ' σ') ?_ FU ⟨γ, σ, ρ, s.heap, s.toks, rfl, Gb.ofGrow (Grow.refl ..), O, X, h⟩
  rintro k s' ⟨γi, σi, ρ', h', tk, rfl, g, oi, Xi, hl⟩
  cases k with
  | zero => cases hl
  | succ k =>
  rw [loopW_succ] at hl
  obtain ⟨rt, hrt, hl⟩ := Option.bind_eq_some_iff.mp hl
  unfold evT at hrt
  obtain ⟨ra, hra, hrt⟩ := Option.bind_eq_some_iff.mp hrt
  obtain ⟨bb, hbb, hrt⟩ := Option.map_eq_some_iff.mp hrt
  cases hrt
  refine (ge_all f.snd t C.sc env γi σi ra.1 ra.2 A { s with heap := h', toks := tk } ρ' hra f.room (f.fr (f.grow G g) Xi) oi Xi).2 bb hbb _ _ fun ρ₂ h₂ tk₂ g₂ o₂ => ?_
  have X₂ := Xi.grow oi.st g₂
  have gt₂ := g.trans (Gb.ofGrow g₂) (Xi.inFrs fun x h => h)
  cases bb with
  | false =>
    cases hl
    exact wpAny_execs_nil (Fn ρ₂ h₂ tk₂ gt₂ o₂ X₂)
  | true =>
    obtain ⟨rb, hrb, hl⟩ := Option.bind_eq_some_iff.mp hl
    obtain ⟨ob, γo, σo⟩ := rb
    refine Gbd γi ra.2 ob γo σo { s with heap := h₂, toks := tk₂ } ρ₂ _ _ hrb o₂ X₂ (f.grow G gt₂) ?_
    intro ρ₄ h₄ tk₄ g₄ o₄ X₄
    have gt := gt₂.trans g₄ (X₂.inFrs fun x h => h)
    cases ob with
    | next => exact ⟨k, Nat.lt_succ_self _, γo, σo, ρ₄, h₄, tk₄, rfl, gt, o₄, X₄, hl⟩
    | cont => exact ⟨k, Nat.lt_succ_self _, γo, σo, ρ₄, h₄, tk₄, rfl, gt, o₄, X₄, hl⟩
    | brk => cases hl; exact Fn ρ₄ h₄ tk₄ gt o₄ X₄
    | ret v => cases hl; exact fun x rx => Fn ρ₄ h₄ tk₄ gt o₄ X₄ x rx
    | exc m sp =>
      cases hl
      intro e fl hf x
      exact exc_loop (s := s) f O X G Fn gt o₄ X₄ hf (x.rebase fun a ha => gt₂.fresh (X₂.inFrs fun x h => h) ha)
end
end Mine
end
section
open PySem PySem.W PyProof.Rows PySem.Calls PySem.SeqAt
set_option maxRecDepth 100000
set_option linter.unusedVariables false
set_option autoImplicit false
namespace Mine
section
variable {c : Cx} {n : Nat} {C : Cfg} {A : Around} {ρ ρ' ρ₁ : List Addr} {h₁ : Heap} {σ : Store} {s : Shared} {sc : Sc} {env : PySem.Env} {γ γ' : Env1}

theorem gs_raise (f : Fx c n C env A ρ₁ h₁) (cc : Nat) (cp : Pos) (e : IE) (sp : IEo) (pc p : Pos) : GS c n C env A ρ₁ h₁ (.raise cc cp e sp pc p) := by
  intro γ σ o γ' σ' s ρ Q E h O X G Fn
  rw [exS_raise] at h
  split at h
  · rename_i hc
    obtain ⟨a, ha, h⟩ := Option.bind_eq_some_iff.mp h
    obtain ⟨b, hb, h⟩ := Option.map_eq_some_iff.mp h
    cases h
    have hroom : Room c true A n := (Bool.and_eq_true_iff.mp hc).2 ▸ f.room
    have hc := (Bool.and_eq_true_iff.mp hc).1
    obtain ⟨Ca, hCa, H⟩ := f.snd.rz cc (Bool.and_eq_true_iff.mp hc).2
    have hg := (Bool.and_eq_true_iff.mp hc).1
    have fin : ∀ e' ρ' h' tk, Grow ρ s.heap ρ' h' → Ok c ρ' b.2 h' → IsExc c s.heap ρ' h' e' a.1 (b.1.getD (.int 0)) none → E e' { s with heap := h', toks := tk } := fun e' ρ' h' tk g o x =>
      Fn ρ' h' tk (Gb.ofGrow g) o (X.grow O.st g) e' none (.inl rfl) x
    cases sp with
    | no =>
      rw [evO_no] at hb
      cases hb
      have hes : evEs C C.sc (.cons e .nil) γ σ = some ([a.1], a.2) := by
        rw [evEs_cons]
        rw [ha]
        simp [evEs_nil, evEs_cons]
      have hd : dS c.T (.raise cc cp e .no pc p) = .Raise (some (.Call (.Name (c.T.nm cc) cp) (dEs c.T (.cons e .nil)) [] pc)) none p := rfl
      rw [hd]
      exact H A s ρ σ C.sc env γ a.2 [a.1] a.1 (.int 0) cp pc p _ hroom (f.fr G X) O X hg (.inl ⟨rfl, rfl⟩) (evEs_stat c.T env pc hes).1
        (fun Q' E' k => args_of O hes (ges_all f.snd (.cons e .nil) C.sc env γ σ _ _ A s ρ pc hes f.room (f.fr G X) O X) k) Q E fin
    | yes x =>
      rw [evO_yes] at hb
      obtain ⟨z, hz, hb⟩ := Option.map_eq_some_iff.mp hb
      cases hb
      have hes : evEs C C.sc (.cons e (.cons x .nil)) γ σ = some ([a.1, z.1], z.2) := by
        rw [evEs_cons]
        rw [ha]
        simp [evEs_nil, evEs_cons, hz]
      have hd : dS c.T (.raise cc cp e (.yes x) pc p) = .Raise (some (.Call (.Name (c.T.nm cc) cp) (dEs c.T (.cons e (.cons x .nil))) [] pc)) none p := rfl
      rw [hd]
      exact H A s ρ σ C.sc env γ z.2 [a.1, z.1] a.1 z.1 cp pc p _ hroom (f.fr G X) O X hg (.inr rfl) (evEs_stat c.T env pc hes).1
        (fun Q' E' k => args_of O hes (ges_all f.snd (.cons e (.cons x .nil)) C.sc env γ σ _ _ A s ρ pc hes f.room (f.fr G X) O X) k) Q E fin
  · cases h

mutual
theorem gs_all (f : Fx c n C env A ρ₁ h₁) : ∀ st : IS, GS c n C env A ρ₁ h₁ st
  | .asg x px e p => gs_asg f x px e p
  | .asgT xs k pt e p => gs_asgT f xs k pt e p
  | .asgI o i pt e p => gs_asgI f o i pt e p
  | .expr e p => gs_expr f e p
  | .exprC g fp es pc p => gs_exprC f g fp es pc p
  | .ifS t a b p => gs_if f (gss_all f a) (gss_all f b) t p
  | .forS t it b p => gs_for f (gss_all f b) t it p
  | .whileS t b p => gs_while f (gss_all f b) t p
  | .ret e p => gs_ret f e p
  | .raise cc cp e sp pc p => gs_raise f cc cp e sp pc p
  | .opq s => fun γ σ o γ' σ' s ρ Q E h => by cases h
theorem gss_all (f : Fx c n C env A ρ₁ h₁) : ∀ b : ISs, GSs c n C env A ρ₁ h₁ b
  | .nil => gss_nil f
  | .cons s r => gss_cons f (gs_all f s) (gss_all f r)
end
end
end Mine
end
section
open PySem PySem.W PyProof.Rows PySem.Calls PySem.SeqAt
set_option maxRecDepth 100000
set_option linter.unusedVariables false
set_option autoImplicit false
namespace Mine

/-- a function of the program -/
structure FnAt (c : Cx) (f : Nat) (fn : Fn) (a : Addr) (o : Obj) (fd : FuncData) : Prop where
  mg : c.mg (c.T.nm f) = some (.ref a)
  at_ : c.h₀.get? a = some o
  data : o.data = .func fd
  body : fd.body = .stmts (dSs c.T fn.body)
  clo : fd.closure = []
  glo : fd.globals = mainGlobals
  bui : fd.builtins = builtinsNs
  code : c.h₀.CodeRec fd.code fd.qualname
  kind : fd.scope.kind = .function
  co : fd.scope.isCoroutine = false
  gen : fd.scope.isGenerator = false
  bind : ∀ vals : List Value, vals.length = fn.params.length → bindArgs fd ⟨vals, []⟩ = pure ((fn.params.map c.T.nm).zip vals)
  low : ∀ x ∈ fn.params ++ fn.sc.loc ++ fn.sc.cel ++ fn.sc.glb, x < c.T.n
  loc : ∀ x ∈ fn.sc.loc, fd.scope.names.lookup (c.T.nm x) = some .local
  cel : ∀ x ∈ fn.sc.cel, fd.scope.names.lookup (c.T.nm x) = some .cell
  glb : ∀ x ∈ fn.sc.glb, fd.scope.names.lookup (c.T.nm x) = some .globalImplicit
  par : ∀ x ∈ fn.params, x ∈ fn.sc.loc ∨ x ∈ fn.sc.cel
  dis : fn.params.Pairwise (· ≠ ·)

theorem cellsFrom_acc {x : Str} : ∀ (names : List (Str × NameKind)) (k : Nat) (acc : List (Str × Addr)), (∃ a, (x, a) ∈ acc) → ∃ a, (x, a) ∈ cellsFrom k names acc
  | [], _, _, h => h
  | (n, kd) :: r, k, acc, ⟨a, h⟩ => by
    unfold cellsFrom
    split
    · exact cellsFrom_acc r _ _ ⟨a, .tail _ h⟩
    · exact cellsFrom_acc r _ _ ⟨a, h⟩
theorem cellsFrom_mem {x : Str} : ∀ (names : List (Str × NameKind)) (k : Nat) (acc : List (Str × Addr)), names.lookup x = some .cell → ∃ a, (x, a) ∈ cellsFrom k names acc
  | [], _, _, h => by cases h
  | (n, kd) :: r, k, acc, h => by
    unfold cellsFrom
    rw [List.lookup_cons] at h
    cases hb : x == n with
    | true =>
      rw [hb] at h
      cases h
      have := beq_iff_eq.mp hb
      subst this
      rw [if_pos (by decide)]
      exact cellsFrom_acc r _ _ ⟨k, .head _⟩
    | false =>
      rw [hb] at h
      split
      · exact cellsFrom_mem r _ _ h
      · exact cellsFrom_mem r _ _ h
theorem lookup_of_mem {α : Type} {x : Str} {a : α} : ∀ {l : List (Str × α)}, (x, a) ∈ l → (l.lookup x).isSome = true
  | (n, b) :: r, h => by
    rw [List.lookup_cons]
    cases hb : x == n with
    | true => rfl
    | false =>
      rcases List.mem_cons.mp h with h | h
      · cases h; simp at hb
      · exact lookup_of_mem h
theorem cells_some {x : Str} {names : List (Str × NameKind)} (k : Nat) (h : names.lookup x = some .cell) : ((cellsFrom k names []).lookup x).isSome = true := by
  obtain ⟨a, ha⟩ := cellsFrom_mem names k [] h
  exact lookup_of_mem ha

theorem bindL_keep {kd : Str → Option NameKind} {x : Str} : ∀ (b : List (Str × Value)) (m : Str → Option Value), (∀ q ∈ b, q.1 ≠ x) → bindL kd b m x = m x
  | [], _, _ => rfl
  | (n, v) :: r, m, H => by
    unfold bindL
    rw [bindL_keep r _ fun q hq => H q (.tail _ hq)]
    split
    · have : x ≠ n := fun z => H (n, v) (.head _) z.symm
      simp [this]
    · rfl
theorem bindC_keep {kd : Str → Option NameKind} {x : Str} : ∀ (b : List (Str × Value)) (m : Str → Option Value), (∀ q ∈ b, q.1 ≠ x) → bindC kd b m x = m x
  | [], _, _ => rfl
  | (n, v) :: r, m, H => by
    unfold bindC
    rw [bindC_keep r _ fun q hq => H q (.tail _ hq)]
    split
    · rfl
    · have : x ≠ n := fun z => H (n, v) (.head _) z.symm
      simp [this]
theorem bindL_look {kd : Str → Option NameKind} {x : Str} {v : Value} (hk : kd x = some .local) : ∀ (b : List (Str × Value)) (m : Str → Option Value), b.Pairwise (fun p q => p.1 ≠ q.1) → (x, v) ∈ b → bindL kd b m x = some v
  | [], _, _, h => by cases h
  | (n, w) :: r, m, P, h => by
    obtain ⟨P1, P2⟩ := List.pairwise_cons.mp P
    unfold bindL
    rcases List.mem_cons.mp h with h | h
    · cases h
      rw [if_pos hk, bindL_keep r _ fun q hq z => P1 q hq z.symm]
      simp
    · exact bindL_look hk r _ P2 h
theorem bindC_look {kd : Str → Option NameKind} {x : Str} {v : Value} (hk : kd x = some .cell) : ∀ (b : List (Str × Value)) (m : Str → Option Value), b.Pairwise (fun p q => p.1 ≠ q.1) → (x, v) ∈ b → bindC kd b m x = some v
  | [], _, _, h => by cases h
  | (n, w) :: r, m, P, h => by
    obtain ⟨P1, P2⟩ := List.pairwise_cons.mp P
    unfold bindC
    rcases List.mem_cons.mp h with h | h
    · cases h
      rw [if_neg (by rw [hk]; decide), bindC_keep r _ fun q hq z => P1 q hq z.symm]
      simp
    · exact bindC_look hk r _ P2 h
theorem zip_pw {T : Tab} : ∀ {ps : List Nat} {xs : List Value}, (∀ x ∈ ps, x < T.n) → ps.Pairwise (· ≠ ·) → ((ps.map T.nm).zip xs).Pairwise (fun p q => p.1 ≠ q.1)
  | [], _, _, _ => by simp
  | _ :: _, [], _, _ => by simp
  | p :: ps, x :: xs, L, P => by
    obtain ⟨P1, P2⟩ := List.pairwise_cons.mp P
    rw [List.map_cons, List.zip_cons_cons]
    refine List.pairwise_cons.mpr ⟨fun q hq z => ?_, zip_pw (fun x hx => L x (.tail _ hx)) P2⟩
    have := (List.of_mem_zip hq).1
    obtain ⟨y, hy, e⟩ := List.mem_map.mp this
    exact P1 y hy (T.inj _ _ (L p (.head _)) (L y (.tail _ hy)) (z.trans e.symm))
theorem zip_rv {T : Tab} {ρ : List Addr} {h : Heap} {x : Nat} {v : V} : ∀ {ps : List Nat} {xs : List Value} {args : List V}, RvL T ρ h xs args → (x, v) ∈ ps.zip args → ∃ val, Rv T ρ h val v ∧ (T.nm x, val) ∈ (ps.map T.nm).zip xs
  | [], _, _, _, h => by simp at h
  | _ :: _, [], [], _, h => by simp at h
  | _ :: _, _ :: _, [], r, _ => by cases r
  | _ :: _, [], _ :: _, r, _ => by cases r
  | p :: ps, y :: xs, w :: args, r, h => by
    rw [List.zip_cons_cons] at h
    rw [List.map_cons, List.zip_cons_cons]
    rcases List.mem_cons.mp h with h | h
    · cases h
      exact ⟨y, r.1, .head _⟩
    · obtain ⟨val, a, b⟩ := zip_rv r.2 h
      exact ⟨val, a, .tail _ b⟩

theorem Room.deeper {c : Cx} {b : Bool} {A : Around} {n : Nat} (R : Room c b A (n + 1)) (env : PySem.Env) : Room c b (A.deeper env) n := by
  obtain ⟨h1, h0, h2, h3⟩ := R
  refine ⟨h1, h0, ?_, ?_⟩
  · show A.depth + 1 + n + 8 < recursionLimit
    omega
  · show A.units + 3 + 8 * n + 80 < cLine
    omega

noncomputable def endOf (out : Out) (σ : Store) : Option (Res × Store) := match out with
  | .ret v => some (.ret v, σ)
  | .next => some (.ret .none, σ)
  | .exc m s => some (.exc m s, σ)
  | _ => none

/-- a call of a function of the program whose body's run is told -/
theorem callFn_sem {c : Cx} {n : Nat} {G : Gx} {Ψ : Psi} {f : Nat} {fn : Fn} {a : Addr} {o : Obj} {fd : FuncData} {args : List V} {σ σ₂ σ' : Store} {r : Res} {out : Out} {γ' : Env1} (S : Snd c n (G.cfg Ψ fn.sc)) (D : FnAt c f fn a o fd) (hlen : fn.params.length = args.length)
    (body : ∀ (env : PySem.Env) (A : Around) (ρ₁ : List Addr) (h₁ : Heap), Fx c n (G.cfg Ψ fn.sc) env A ρ₁ h₁ → ∀ (s : Shared) (ρ : List Addr) (Q : Flow → Shared → Prop) (E : Value → Shared → Prop), Ok c ρ σ s.heap → En c fn.sc env ((fn.params.zip args).reverse) ρ s.heap → Grow ρ₁ h₁ ρ s.heap →
      FinS c fn.sc env s ρ out γ' σ₂ Q E → wpAny (model c.prog c.w) A (execs (dSs c.T fn.body) env) Q E s)
    (e : endOf out σ₂ = some (r, σ')) : CallOk c (n + 1) f args σ r σ' := by
    refine ⟨a, o, fd, D.mg, D.at_, D.data, fun A s ρ xs R F O hx => ?_⟩
    have hxl : xs.length = fn.params.length := by rw [hx.length, hlen]
    have key : ∀ (Q : Value → Shared → Prop) (E : Value → Shared → Prop),
        (∀ v, r = .ret v → σ₂ = σ' → ∀ x ρ' h' tk, Grow ρ s.heap ρ' h' → Ok c ρ' σ' h' → Rv c.T ρ' h' x v → Q x { s with heap := h', toks := tk }) →
        (∀ m sp, r = .exc m sp → σ₂ = σ' → ∀ x ρ' h' tk, Grow ρ s.heap ρ' h' → Ok c ρ' σ' h' → IsExc c s.heap ρ' h' x m sp (some .none) → E x { s with heap := h', toks := tk }) →
        wpAny (model c.prog c.w) A (call (.ref a) xs) Q E s := by
      intro Q E hQ hE
      have low : ∀ x ∈ fn.params, x < c.T.n := fun x hx => D.low x (by simp [hx])
      have binds := D.bind xs hxl
      refine wpAny_call (codeAny_call_cells (o := o) (fd := fd) (body := dSs c.T fn.body) (by have := R.depth; omega) (O.base _ _ D.at_) D.data (c.lim.keeps O.base) ?_ D.body binds D.clo ?_ ?_ D.co D.gen D.kind)
      · obtain ⟨c', oc, vs, tq, h1, h2, h3, h4⟩ := D.code
        exact ⟨c', oc, vs, tq, h1, O.base _ _ h2, h3, h4⟩
      · intro q hq
        have := (List.of_mem_zip hq).1
        obtain ⟨y, hy, ey⟩ := List.mem_map.mp this
        rw [← ey]
        rcases D.par y hy with h | h
        · exact .inl (D.loc y h)
        · exact .inr ⟨D.cel y h, cells_some _ (D.cel y h)⟩
      · intro s₁ IC
        obtain ⟨h₁, tk₁, rfl⟩ := IC.toInCall.same
        have keep := IC.toInCall.keep
        have hLf : s.heap.get? (callEnvC fd s.heap.objs.size a).locals = none := by
          cases q : s.heap.get? (callEnvC fd s.heap.objs.size a).locals with
          | none => rfl
          | some ob => exact absurd (Heap.lt_size q) (Nat.not_lt.mpr IC.toInCall.fresh)
        have hCf : ∀ x b, (callEnvC fd s.heap.objs.size a).cells.lookup x = some b → s.heap.get? b = none := fun x b hb => by
          cases q : s.heap.get? b with
          | none => rfl
          | some ob =>
            have h1 := IC.above x b (mem_of_lookup hb)
            have h2 := IC.toInCall.fresh
            exact absurd (Heap.lt_size q) (Nat.not_lt.mpr (Nat.le_of_lt (Nat.lt_of_le_of_lt h2 h1)))
        have fx : Fx c n (G.cfg Ψ fn.sc) (callEnvC fd s.heap.objs.size a) (A.deeper (callEnvC fd s.heap.objs.size a)) ρ s.heap := by
          obtain ⟨outer, hfr, H⟩ := F
          exact ⟨O.base, ⟨fun x h => h, fun x h => h, hLf, fun x _ b hb => hCf _ b hb⟩, R.deeper _, rfl, ⟨outer, by show A.frames.map _ = _; rw [hfr]; rfl, H⟩, ⟨σ, O.st⟩, S⟩
        have O₁ : Ok c ρ σ h₁ := O.ext keep
        have G₁ : Grow ρ s.heap ρ h₁ := Grow.ext keep
        have X₁ : En c fn.sc (callEnvC fd s.heap.objs.size a) ((fn.params.zip args).reverse) ρ h₁ := by
          refine ⟨D.kind, D.glo, D.bui, fun x hx => ⟨D.low x (by simp [hx]), D.loc x hx⟩, fun x hx => ⟨D.low x (by simp [hx]), D.cel x hx, ?_⟩, fun x hx => ⟨D.low x (by simp [hx]), D.glb x hx⟩, fun x hx y hy b h1 h2 => ?_, ⟨_, IC.toInCall.ns⟩, fun x v hv => ?_⟩
          · obtain ⟨b, hb⟩ := Option.isSome_iff_exists.mp (cells_some (s.heap.objs.size + 1) (D.cel x hx))
            exact ⟨b, hb, _, IC.cell _ b hb⟩
          · exact c.T.inj _ _ (D.low x (by simp [hx])) (D.low y (by simp [hy])) (name_of_addr IC.apart (mem_of_lookup h1) (mem_of_lookup h2))
          · have hm : (x, v) ∈ fn.params.zip args := List.mem_reverse.mp (mem_of_lookupN hv)
            obtain ⟨val, rv, hb⟩ := zip_rv hx hm
            have hp := (List.of_mem_zip hm).1
            refine ⟨val, rv.grow G₁ O.st, ?_⟩
            rcases D.par x hp with h | h
            · exact .inl ⟨h, _, IC.toInCall.ns, bindL_look (D.loc x h) _ _ (zip_pw low D.dis) hb⟩
            · obtain ⟨b, hbb⟩ := Option.isSome_iff_exists.mp (cells_some (s.heap.objs.size + 1) (D.cel x h))
              refine .inr ⟨h, b, hbb, ?_⟩
              have := IC.cell _ b hbb
              rw [bindC_look (D.cel x h) _ _ (zip_pw low D.dis) hb] at this
              exact this
        refine body _ _ _ _ fx { s with heap := h₁, toks := tk₁ } ρ _ _ O₁ X₁ G₁ ?_
        intro ρ' h' tk g o' X'
        have gr := fx.grow G₁ g
        cases out with
        | next => cases e; exact hQ .none rfl rfl _ ρ' h' tk gr o' .none
        | brk => cases e
        | cont => cases e
        | ret v => cases e; exact fun x rx => hQ v rfl rfl x ρ' h' tk gr o' rx
        | exc m sp =>
          cases e
          intro ex fl hf x
          have x' := x.rebase (hb' := s.heap) fun b hb => push_fresh G₁ hb
          have gb : Gb (Mine.frs c fn.sc (callEnvC fd s.heap.objs.size a)) ρ s.heap ρ' h' := (Gb.ofGrow G₁).trans g (X₁.inFrs fun x h => h)
          have hdom : ∀ b o, s.heap.get? b = some o → ∃ o', h'.get? b = some o' := fun b o e => gr.dom b o e
          refine leave_ok (s := { s with heap := h', toks := tk }) x' hf (fx.fr gr X') (let ⟨outer, hfr, _⟩ := fx.outer; ⟨outer, hfr⟩) o' X' O.base hdom fun h'' x'' k'' => ?_
          refine hE m sp rfl rfl ex ρ' h'' tk ?_ k''.ok x''
          have gb' := k''.gb _ _ gb
          refine ⟨gb'.more, fun b ob hb hbn => gb'.keep b ob hb hbn fun hq => ?_, fun b ob hb => gb'.dom b ob hb fun hq => ?_⟩
          · rw [fx.fresh b hq] at hb; cases hb
          · rw [fx.fresh b hq] at hb; cases hb
    cases r with
    | ret v => exact fun Q E hQ => key Q E (fun v' hv hs x ρ' h' tk g o r => by cases hv; exact hQ x ρ' h' tk g o r) (fun m sp h => by cases h)
    | exc m sp => exact fun Q E hE => key Q E (fun v' h => by cases h) (fun m' sp' h hs x ρ' h' tk g o r => by cases h; exact hE x ρ' h' tk g o r)

/-- a call of a function of the program -/
theorem callFn_ok {c : Cx} {n : Nat} {G : Gx} {Ψ : Psi} {f : Nat} {fn : Fn} {a : Addr} {o : Obj} {fd : FuncData} {args : List V} {σ σ' : Store} {r : Res} (S : Snd c n (G.cfg Ψ fn.sc)) (D : FnAt c f fn a o fd) (e : callFn G Ψ fn args σ = some (r, σ')) : CallOk c (n + 1) f args σ r σ' := by
  unfold callFn at e
  split at e
  · rename_i hlen
    obtain ⟨q, hq, e⟩ := Option.bind_eq_some_iff.mp e
    obtain ⟨out, γ', σ₂⟩ := q
    exact callFn_sem S D (beqN.mp hlen) (fun env A ρ₁ h₁ fx s ρ Q E O X G F => gss_all fx fn.body _ σ out γ' σ₂ s ρ Q E hq O X G F) (by cases out <;> exact e)
  · cases e
end Mine
end
section
open PySem
set_option linter.unusedVariables false
set_option autoImplicit false
namespace Mine

mutual
noncomputable def noRef : V → Bool
  | .tup l => noRefL l
  | .ref _ => false
  | _ => true
noncomputable def noRefL : List V → Bool
  | [] => true
  | v :: r => noRef v && noRefL r
end
noncomputable def refsOf : List V → List Nat
  | [] => []
  | v :: r => match v with
    | .ref k => k :: refsOf r
    | _ => refsOf r
noncomputable def renArgs : List V → Nat → List V
  | [], _ => []
  | v :: r, i => match v with
    | .ref _ => .ref i :: renArgs r (i + 1)
    | v => v :: renArgs r i
noncomputable def isRef : V → Bool
  | .ref _ => true
  | _ => false
noncomputable def gets (σ : Store) : List Nat → Option Store
  | [] => some []
  | k :: ks => match σ[k]? with
    | some l => (gets σ ks).map fun ls => l :: ls
    | none => none
noncomputable def puts : Store → List Nat → Store → Store
  | σ, k :: ks, l :: ls => puts (σ.set k l) ks ls
  | σ, _, _ => σ
noncomputable def allL {α : Type} (f : α → Bool) : List α → Bool
  | [] => true
  | x :: r => f x && allL f r
/-- a call that sees of the store its arguments alone -/
noncomputable def frameEnd (σ : Store) (rs : List Nat) (q : Res × Store) : Option (Res × Store) :=
  if allL noRefL (q.2.take rs.length) && Nat.ble rs.length q.2.length then
    match q.1 with
    | .ret (.ref k) => if Nat.ble rs.length k then match q.2[k]? with
        | some l => if noRefL l then some (.ret (.ref σ.length), puts σ rs (q.2.take rs.length) ++ [l]) else none
        | none => none
      else none
    | .ret v => if noRef v then some (.ret v, puts σ rs (q.2.take rs.length)) else none
    | .exc m s => if noRef m && noRef s then some (.exc m s, puts σ rs (q.2.take rs.length)) else none
  else none
noncomputable def frameCall (g : List V → Store → Option (Res × Store)) (args : List V) (σ : Store) : Option (Res × Store) :=
  if distinct (refsOf args) && allL (fun v => isRef v || noRef v) args then
    match gets σ (refsOf args) with
    | some σs => if allL noRefL σs then (g (renArgs args 0) σs).bind (frameEnd σ (refsOf args)) else none
    | none => none
  else none
end Mine
end
section
open PySem PySem.W PyProof.Rows PySem.Calls PySem.SeqAt
set_option maxRecDepth 100000
set_option linter.unusedVariables false
set_option autoImplicit false
namespace Mine

theorem noRefL_get : ∀ {l : List V} {i : Nat} {v : V}, noRefL l = true → l[i]? = some v → noRef v = true
  | v :: r, 0, w, h, e => by
    simp at e; subst e
    unfold noRefL at h
    exact (Bool.and_eq_true_iff.mp h).1
  | v :: r, i + 1, w, h, e => by
    unfold noRefL at h
    exact noRefL_get (Bool.and_eq_true_iff.mp h).2 (by simpa using e)
theorem Rv.noRef {T : Tab} {ρ ρ' : List Addr} {h h' : Heap} (hk : ∀ a vals n, h.get? a = some { cls := .type "tuple", data := .seq vals n } → h'.get? a = some { cls := .type "tuple", data := .seq vals n }) {x : Value} {v : V} (r : Rv T ρ h x v) (hn : Mine.noRef v = true) : Rv T ρ' h' x v := by
  induction r with
  | none => exact .none
  | bool b => exact .bool b
  | int i t => exact .int i t
  | str k t hk => exact .str k t hk
  | tup a vals l n e hl _ ih =>
    refine .tup a vals l n (hk _ _ _ e) hl fun i x y h1 h2 => ih i x y h1 h2 ?_
    unfold Mine.noRef at hn
    exact noRefL_get hn h2
  | ref k a e => cases hn
  | obj a => exact .obj a
theorem RvL.noRef {T : Tab} {ρ ρ' : List Addr} {h h' : Heap} (hk : ∀ a vals n, h.get? a = some { cls := .type "tuple", data := .seq vals n } → h'.get? a = some { cls := .type "tuple", data := .seq vals n }) : ∀ {xs : List Value} {ys : List V}, RvL T ρ h xs ys → noRefL ys = true → RvL T ρ' h' xs ys
  | [], [], _, _ => trivial
  | _ :: _, _ :: _, ⟨q, r⟩, hn => by
    unfold noRefL at hn
    exact ⟨q.noRef hk (Bool.and_eq_true_iff.mp hn).1, RvL.noRef hk r (Bool.and_eq_true_iff.mp hn).2⟩

theorem allL_get {α : Type} {f : α → Bool} : ∀ {l : List α} {i : Nat} {v : α}, allL f l = true → l[i]? = some v → f v = true
  | v :: r, 0, w, h, e => by
    simp at e; subst e
    exact (Bool.and_eq_true_iff.mp h).1
  | v :: r, i + 1, w, h, e => allL_get (Bool.and_eq_true_iff.mp h).2 (by simpa using e)
theorem gets_len {σ : Store} : ∀ {ks : List Nat} {σs : Store}, gets σ ks = some σs → σs.length = ks.length
  | [], _, e => by cases e; rfl
  | k :: ks, σs, e => by
    unfold gets at e
    split at e
    · obtain ⟨ls, h, rfl⟩ := Option.map_eq_some_iff.mp e
      simp [gets_len h]
    · cases e
theorem gets_at {σ : Store} : ∀ {ks : List Nat} {σs : Store}, gets σ ks = some σs → ∀ {i k : Nat}, ks[i]? = some k → ∃ l, σ[k]? = some l ∧ σs[i]? = some l
  | k :: ks, σs, e, 0, k', h => by
    simp at h; subst h
    unfold gets at e
    split at e
    · rename_i l hl
      obtain ⟨ls, h, rfl⟩ := Option.map_eq_some_iff.mp e
      exact ⟨l, hl, rfl⟩
    · cases e
  | k :: ks, σs, e, i + 1, k', h => by
    unfold gets at e
    split at e
    · obtain ⟨ls, hh, rfl⟩ := Option.map_eq_some_iff.mp e
      obtain ⟨l, a, b⟩ := gets_at hh (i := i) (k := k') (by simpa using h)
      exact ⟨l, a, by simpa using b⟩
    · cases e
theorem puts_len : ∀ (ks : List Nat) (σ ls : Store), (puts σ ks ls).length = σ.length
  | [], σ, _ => by simp [puts]
  | _ :: _, σ, [] => by simp [puts]
  | k :: ks, σ, l :: ls => by
    show (puts (σ.set k l) ks ls).length = _
    rw [puts_len ks, List.length_set]
theorem puts_off : ∀ (ks : List Nat) (σ ls : Store) (j : Nat), j ∉ ks → (puts σ ks ls)[j]? = σ[j]?
  | [], σ, _, _, _ => by simp [puts]
  | _ :: _, σ, [], _, _ => by simp [puts]
  | k :: ks, σ, l :: ls, j, h => by
    show (puts (σ.set k l) ks ls)[j]? = _
    rw [puts_off ks _ _ j fun q => h (.tail _ q), List.getElem?_set_ne (fun q => h (by rw [← q]; exact .head _))]
theorem puts_at : ∀ (ks : List Nat) (σ ls : Store), ks.Pairwise (· ≠ ·) → (∀ k ∈ ks, k < σ.length) → ∀ {i j : Nat} {l : List V}, ks[i]? = some j → ls[i]? = some l → (puts σ ks ls)[j]? = some l
  | [], _, _, _, _, i, _, _, h, _ => by simp at h
  | _ :: _, _, [], _, _, _, _, _, _, h => by simp at h
  | k :: ks, σ, l :: ls, P, H, 0, j, l', h1, h2 => by
    simp at h1 h2; subst h1 h2
    show (puts (σ.set k l) ks ls)[k]? = some l
    obtain ⟨P1, P2⟩ := List.pairwise_cons.mp P
    rw [puts_off ks _ _ k fun q => P1 k q rfl, List.getElem?_set_self (H k (.head _))]
  | k :: ks, σ, l :: ls, P, H, i + 1, j, l', h1, h2 => by
    obtain ⟨P1, P2⟩ := List.pairwise_cons.mp P
    exact puts_at ks _ _ P2 (fun k' hk => by rw [List.length_set]; exact H k' (.tail _ hk)) (by simpa using h1) (by simpa using h2)

/-- the addresses at some places -/
noncomputable def addrs (ρ : List Addr) (ks : List Nat) : List Addr := ks.map fun k => ρ.getD k 0
theorem addrs_at {ρ : List Addr} {ks : List Nat} {i k : Nat} (h : ks[i]? = some k) (hk : k < ρ.length) : (addrs ρ ks)[i]? = ρ[k]? := by
  unfold addrs
  rw [List.getElem?_map, h]
  simp [List.getD_eq_getElem?_getD, List.getElem?_eq_getElem hk]

theorem ren_rv {T : Tab} {ρ ρs : List Addr} {h : Heap} : ∀ {args : List V} {xs : List Value} {i : Nat}, RvL T ρ h xs args → allL (fun v => isRef v || Mine.noRef v) args = true → (∀ j k, (refsOf args)[j]? = some k → ρs[i + j]? = ρ[k]?) → RvL T ρs h xs (renArgs args i)
  | [], [], _, _, _, _ => trivial
  | v :: args, x :: xs, i, ⟨r, rs⟩, ha, H => by
    have ha' := Bool.and_eq_true_iff.mp ha
    have same : isRef v = false → renArgs (v :: args) i = v :: renArgs args i ∧ refsOf (v :: args) = refsOf args := fun hv => by
      cases v <;> first | exact ⟨rfl, rfl⟩ | (cases hv)
    cases hv : isRef v with
    | false =>
      obtain ⟨e1, e2⟩ := same hv
      rw [e1]
      have hn : Mine.noRef v = true := by
        have hz : (isRef v || Mine.noRef v) = true := ha'.1
        rw [hv] at hz
        simpa using hz
      exact ⟨r.noRef (fun _ _ _ e => e) hn, ren_rv rs ha'.2 fun j k hj => H j k (by rw [e2]; exact hj)⟩
    | true =>
      cases v with
      | ref k =>
        obtain ⟨a, rfl, hk⟩ := r.refInv
        refine ⟨.ref i a ?_, ren_rv (i := i + 1) rs ha'.2 fun j k' hj => ?_⟩
        · have := H 0 k rfl
          rw [Nat.add_zero] at this
          rw [this]; exact hk
        · have := H (j + 1) k' (by show (k :: refsOf args)[j + 1]? = _; simpa using hj)
          rw [← this]
          congr 1
          omega
      | _ => cases hv
  | [], _ :: _, _, r, _, _ => by cases r
  | _ :: _, [], _, r, _, _ => by cases r
theorem refsOf_mem {T : Tab} {ρ : List Addr} {h : Heap} : ∀ {args : List V} {xs : List Value}, RvL T ρ h xs args → ∀ k ∈ refsOf args, k < ρ.length
  | [], [], _, k, hk => by cases hk
  | v :: args, x :: xs, ⟨r, rs⟩, k, hk => by
    cases v with
    | ref k' =>
      have hk' : k ∈ k' :: refsOf args := hk
      rcases List.mem_cons.mp hk' with h | h
      · subst h
        obtain ⟨a, rfl, e⟩ := r.refInv
        exact (List.getElem?_eq_some_iff.mp e).1
      · exact refsOf_mem rs k h
    | _ => exact refsOf_mem rs k hk
  | [], _ :: _, r, _, _ => by cases r
  | _ :: _, [], r, _, _ => by cases r

theorem frame_ok {c : Cx} {n f : Nat} {args : List V} {σ σs σ' : Store} {q : Res × Store} {r : Res} (hd : distinct (refsOf args) = true) (ha : allL (fun v => isRef v || Mine.noRef v) args = true) (hg : gets σ (refsOf args) = some σs) (hn : allL noRefL σs = true)
    (H : CallOk c n f (renArgs args 0) σs q.1 q.2) (e : frameEnd σ (refsOf args) q = some (r, σ')) : CallOk c n f args σ r σ' := by
  obtain ⟨a, o, fd, h1, h2, h3, H⟩ := H
  refine ⟨a, o, fd, h1, h2, h3, fun A s ρ xs R F O hx => ?_⟩
  have hlow := refsOf_mem hx
  have hpw := distinct_pw hd
  generalize hrs : refsOf args = rs at *
  have hlowσ : ∀ k ∈ rs, k < σ.length := fun k hk => by rw [← O.st.len]; exact hlow k hk
  let ρs := addrs ρ rs
  have hρs : ∀ {i k : Nat}, rs[i]? = some k → ρs[i]? = ρ[k]? := fun {i k} hi => addrs_at hi (hlow k (List.mem_of_getElem? hi))
  have hlen : ρs.length = rs.length := by show (addrs ρ rs).length = _; unfold addrs; simp
  have hsub : ∀ b ∈ ρs, b ∈ ρ := fun b hb => by
    obtain ⟨i, hi, hb⟩ := List.getElem_of_mem hb
    have hi' : i < rs.length := hlen ▸ hi
    have := hρs (List.getElem?_eq_getElem hi')
    rw [List.getElem?_eq_getElem hi, hb] at this
    exact List.mem_of_getElem? this.symm
  have Os : Ok c ρs σs s.heap := by
    refine ⟨⟨by rw [hlen, gets_len hg], ?_, fun k b l hk hl => ?_⟩, O.base, fun b hb => O.off b (hsub b hb)⟩
    · rw [List.nodup_iff_pairwise_ne] at *
      show (rs.map fun k => ρ.getD k 0).Pairwise (· ≠ ·)
      rw [List.pairwise_map]
      refine hpw.imp_of_mem fun {k j} hk hj hne z => hne ?_
      have a1 := hlow k hk
      have a2 := hlow j hj
      rw [List.getD_eq_getElem?_getD, List.getD_eq_getElem?_getD, List.getElem?_eq_getElem a1, List.getElem?_eq_getElem a2] at z
      exact (List.getElem_inj (List.nodup_iff_pairwise_ne.mpr (List.nodup_iff_pairwise_ne.mp O.st.nd))).mp z
    · have hk' : k < rs.length := by
        have := (List.getElem?_eq_some_iff.mp hk).1
        rw [← hlen]; exact this
      obtain ⟨l', e1, e2⟩ := gets_at hg (List.getElem?_eq_getElem hk')
      rw [hl] at e2; cases e2
      have e3 := hρs (List.getElem?_eq_getElem hk')
      rw [hk] at e3
      obtain ⟨vals, m, g1, r1⟩ := O.st.lst _ b l e3.symm e1
      exact ⟨vals, m, g1, r1.noRef (fun _ _ _ e => e) (allL_get hn hl)⟩
  have hxs : RvL c.T ρs s.heap xs (renArgs args 0) := ren_rv hx ha fun j k hj => by
    rw [Nat.zero_add]
    exact hρs (by rw [hrs] at hj; exact hj)
  have back : ∀ (ρ' : List Addr) (h' : Heap), Grow ρs s.heap ρ' h' → Ok c ρ' q.2 h' → allL noRefL (q.2.take rs.length) = true → rs.length ≤ q.2.length → Grow ρ s.heap ρ h' ∧ Ok c ρ (puts σ rs (q.2.take rs.length)) h' := by
    intro ρ' h' g o hq hle
    have keepT := g.tup Os.st
    obtain ⟨m, hm, hfr⟩ := g.more
    have gr : Grow ρ s.heap ρ h' := ⟨⟨[], by simp, by simp⟩, fun b ob hb hbn => g.keep b ob hb fun z => hbn (hsub b z), g.dom⟩
    refine ⟨gr, ⟨⟨by rw [puts_len]; exact O.st.len, O.st.nd, fun k b l hk hl => ?_⟩, o.base, O.off⟩⟩
    by_cases hkr : k ∈ rs
    · obtain ⟨i, hi, he⟩ := List.getElem_of_mem hkr
      have hi' : rs[i]? = some k := by rw [List.getElem?_eq_getElem hi, he]
      have hti : i < (q.2.take rs.length).length := by rw [List.length_take]; omega
      have hl' := puts_at rs σ _ hpw hlowσ hi' (List.getElem?_eq_getElem hti)
      rw [hl] at hl'
      have hq2 : q.2[i]? = some l := by
        have := Option.some.inj hl'
        rw [this, List.getElem_take, List.getElem?_eq_getElem]
      have hb : ρ'[i]? = some b := by
        rw [hm, List.getElem?_append_left (by rw [hlen]; exact hi), hρs hi']
        exact hk
      obtain ⟨vals, mm, g1, r1⟩ := o.st.lst i b l hb hq2
      exact ⟨vals, mm, g1, r1.noRef (fun _ _ _ e => e) (allL_get hq ((List.getElem?_eq_getElem hti).trans hl'.symm))⟩
    · rw [puts_off rs _ _ k hkr] at hl
      obtain ⟨vals, mm, g1, r1⟩ := O.st.lst k b l hk hl
      have hbn : b ∉ ρs := fun hb => by
        obtain ⟨i, hi, hbe⟩ := List.getElem_of_mem hb
        have hi' : i < rs.length := hlen ▸ hi
        have e3 := hρs (List.getElem?_eq_getElem hi')
        rw [List.getElem?_eq_getElem hi, hbe] at e3
        obtain ⟨b1, b2⟩ := List.getElem?_eq_some_iff.mp hk
        obtain ⟨c1, c2⟩ := List.getElem?_eq_some_iff.mp e3.symm
        have := (List.getElem_inj O.st.nd).mp (b2.trans c2.symm)
        exact hkr (this ▸ List.getElem_mem hi')
      exact ⟨vals, mm, g.exact g1 hbn (fun es ep z => by cases z), r1.mono ⟨[], by simp⟩ keepT⟩
  unfold frameEnd at e
  split at e
  · rename_i hc
    have hq := (Bool.and_eq_true_iff.mp hc).1
    have hle : rs.length ≤ q.2.length := Nat.le_of_ble_eq_true (Bool.and_eq_true_iff.mp hc).2
    have HH := H A s ρs xs R F Os hxs
    obtain ⟨q1, q2⟩ := q
    split at e
    · rename_i k hqk
      simp only at hqk
      subst hqk
      split at e
      · rename_i hk
        have hk : rs.length ≤ k := Nat.le_of_ble_eq_true hk
        split at e
        · rename_i l hl
          split at e
          · rename_i hnl
            cases e
            intro Q E hQ
            refine HH Q E fun x ρ' h' tk g o' rx => ?_
            obtain ⟨gr, op⟩ := back ρ' h' g o' hq hle
            obtain ⟨ad, rfl, had⟩ := rx.refInv
            obtain ⟨vals, m, gl, rl⟩ := o'.st.lst k ad l had hl
            have hfresh : s.heap.get? ad = none := by
              obtain ⟨mm, hm, hf⟩ := g.more
              rw [hm, List.getElem?_append_right (by rw [hlen]; exact hk)] at had
              exact hf ad (List.mem_of_getElem? had)
            have hadρ : ad ∉ ρ := fun hz => by
              obtain ⟨vs, m', g'⟩ := O.st.isList hz
              rw [hfresh] at g'; cases g'
            refine hQ _ (ρ ++ [ad]) h' tk ⟨⟨[ad], rfl, fun b hb => by rw [List.mem_singleton.mp hb]; exact hfresh⟩, gr.keep, gr.dom⟩
              ⟨op.st.adopt gl hadρ (rl.noRef (fun _ _ _ e => e) hnl), op.base, fun b hb => ?_⟩ (.ref _ _ ?_)
            · rcases List.mem_append.mp hb with hb | hb
              · exact op.off b hb
              · rw [List.mem_singleton.mp hb]
                cases z : c.h₀.get? ad with
                | none => rfl
                | some ob => rw [O.base _ _ z] at hfresh; cases hfresh
            · rw [← O.st.len]; simp
          · cases e
        · cases e
      · cases e
    · rename_i v hv hqv
      simp only at hqv
      subst hqv
      split at e
      · rename_i hnv
        cases e
        intro Q E hQ
        refine HH Q E fun x ρ' h' tk g o' rx => ?_
        obtain ⟨gr, op⟩ := back ρ' h' g o' hq hle
        exact hQ x ρ h' tk gr op (rx.noRef (fun _ _ _ e => e) hnv)
      · cases e
    · rename_i m sp hqe
      simp only at hqe
      subst hqe
      split at e
      · rename_i hnm
        cases e
        intro Q E hQ
        refine HH Q E fun x ρ' h' tk g o' rx => ?_
        obtain ⟨gr, op⟩ := back ρ' h' g o' hq hle
        refine hQ x ρ h' tk gr op ?_
        obtain ⟨a', oo, vs, dd, mm, vm, vs', x1, x2, x3, x4, x5, x6, x7, x8, x9, x10, x11, x12⟩ := rx
        exact ⟨a', oo, vs, dd, mm, vm, vs', x1, x2, x3, x4, x5, x6, x7, x8, x9, x10.noRef (fun _ _ _ e => e) (Bool.and_eq_true_iff.mp hnm).1, x11.noRef (fun _ _ _ e => e) (Bool.and_eq_true_iff.mp hnm).2, x12⟩
      · cases e
  · cases e
end Mine
end
section
open PySem PySem.W PyProof.Rows PySem.Calls PySem.SeqAt
set_option maxRecDepth 100000
set_option linter.unusedVariables false
set_option autoImplicit false
namespace Mine

noncomputable def runF (G : Gx) (fns : List (Nat × Fn)) (framed : Nat → Bool) : Nat → Psi
  | 0, _, _, _ => none
  | k + 1, f, args, σ => match fns.lookup f with
    | some fn => if framed f then frameCall (fun a s => callFn G (runF G fns framed k) fn a s) args σ else callFn G (runF G fns framed k) fn args σ
    | none => none

theorem runF_succ {G : Gx} {fns : List (Nat × Fn)} {framed : Nat → Bool} {k f : Nat} {args : List V} {σ : Store} : runF G fns framed (k + 1) f args σ = (match fns.lookup f with
    | some fn => if framed f then frameCall (fun a s => callFn G (runF G fns framed k) fn a s) args σ else callFn G (runF G fns framed k) fn args σ
    | none => none) := rfl

structure SndG (c : Cx) (G : Gx) : Prop where
  num : G.n = c.T.n
  ob : G.ob = c.ob
  gi : ∀ x i, G.gi x = some i → ∃ t, c.mg (c.T.nm x) = some (.int i t)
  bi : ∀ b x, G.bi b x = true → c.mg (c.T.nm x) = none ∧ c.mb (c.T.nm x) = some (biOf b)
  rz : ∀ n cc, G.rz cc = true → RaiseOk c n cc
  hook : ∀ y a v, G.H y a = some v → ∀ (A : Around) (ρ : List Addr) (σ : Store) (s : Shared), Ok c ρ σ s.heap → RunV c A ρ s (getAttr (.ref a) (c.T.nm y) true) v σ
theorem SndG.snd {c : Cx} {G : Gx} (S : SndG c G) {n : Nat} {Ψ : Psi} (H : ∀ f args σ r σ', Ψ f args σ = some (r, σ') → CallOk c n f args σ r σ') (sc : Sc) : Snd c n (G.cfg Ψ sc) :=
  ⟨S.num, S.ob, fun f args σ r σ' h => ⟨rfl, H f args σ r σ' h⟩, (fun _ _ _ h => by cases h), S.gi, S.bi, fun cc h => S.rz n cc h, S.hook⟩

theorem runF_ok {c : Cx} {G : Gx} {fns : List (Nat × Fn)} {framed : Nat → Bool} (S : SndG c G) (hfn : ∀ f fn, fns.lookup f = some fn → ∃ a o fd, FnAt c f fn a o fd) :
    ∀ (k f : Nat) (args : List V) (σ : Store) (r : Res) (σ' : Store), runF G fns framed k f args σ = some (r, σ') → CallOk c k f args σ r σ'
  | 0, _, _, _, _, _, e => by cases e
  | k + 1, f, args, σ, r, σ', e => by
    rw [runF_succ] at e
    have ih := runF_ok (framed := framed) S hfn k
    split at e
    · rename_i fn hf
      obtain ⟨a, o, fd, D⟩ := hfn f fn hf
      split at e
      · unfold frameCall at e
        split at e
        · rename_i hc
          have hc' := Bool.and_eq_true_iff.mp hc
          split at e
          · rename_i σs hg
            split at e
            · rename_i hn
              obtain ⟨q, hq, e⟩ := Option.bind_eq_some_iff.mp e
              obtain ⟨q1, q2⟩ := q
              exact frame_ok hc'.1 hc'.2 hg hn (callFn_ok (S.snd ih fn.sc) D hq) e
            · cases e
          · cases e
        · cases e
      · exact callFn_ok (S.snd ih fn.sc) D e
    · cases e
end Mine
end
section
open PySem PySem.W PySem.Calls
set_option maxRecDepth 100000
set_option linter.unusedVariables false
set_option autoImplicit false
namespace Mine

/-- the heap without some objects -/
noncomputable def mask (h : Heap) (S : List Addr) : Heap := ⟨h.objs.mapIdx fun i o => if S.contains i then { o with data := .freed } else o, h.life⟩
theorem mask_get {h : Heap} {S : List Addr} (a : Addr) : (mask h S).get? a = if S.contains a then none else h.get? a := by
  unfold mask Heap.get?
  simp only [Array.getElem?_mapIdx]
  cases q : h.objs[a]? with
  | none => simp
  | some o =>
    simp only [Option.map_some]
    by_cases hs : S.contains a = true
    · simp only [hs, if_true]
    · simp only [hs, if_false]
      rfl
theorem mask_in {h : Heap} {S : List Addr} {a : Addr} (ha : a ∈ S) : (mask h S).get? a = none := by
  rw [mask_get, if_pos (List.contains_iff_mem.mpr ha)]
theorem mask_out {h : Heap} {S : List Addr} {a : Addr} (ha : a ∉ S) : (mask h S).get? a = h.get? a := by
  rw [mask_get, if_neg fun q => ha (List.contains_iff_mem.mp q)]
theorem mask_sub {h : Heap} {S : List Addr} {b : Addr} {o : Obj} (e : (mask h S).get? b = some o) : h.get? b = some o ∧ b ∉ S := by
  have hb : b ∉ S := fun q => by rw [mask_in q] at e; cases e
  rw [mask_out hb] at e
  exact ⟨e, hb⟩

/-- the view in which all that stands now, but for some objects, is to stand -/
noncomputable def Cx.at_ (c : Cx) (h : Heap) (S : List Addr) (hk : ∀ b o, c.h₀.get? b = some o → (mask h S).get? b = some o) : Cx where
  T := c.T
  prog := c.prog
  w := c.w
  h₀ := mask h S
  mg := c.mg
  mb := c.mb
  hg := c.hg.keeps hk
  hb := c.hb.keeps hk
  lim := c.lim.keeps hk
  xcls := c.xcls
  ob := c.ob
  hob := fun a l e => by
    obtain ⟨vals, n, h1, h2⟩ := c.hob a l e
    exact ⟨vals, n, hk _ _ h1, h2.mono ⟨[], rfl⟩ fun b vs m e => hk _ _ e⟩

section
variable {c : Cx} {ρ : List Addr} {σ : Store} {h : Heap} {S : List Addr} {A : Around}

theorem Ok.sub (O : Ok c ρ σ h) (hS : ∀ a ∈ S, c.h₀.get? a = none) : ∀ b o, c.h₀.get? b = some o → (mask h S).get? b = some o := fun b o e => by
  rw [mask_out fun q => by rw [hS b q] at e; cases e]
  exact O.base b o e
theorem Ok.enter (O : Ok c ρ σ h) (hk : ∀ b o, c.h₀.get? b = some o → (mask h S).get? b = some o) : Ok (c.at_ h S hk) [] [] h :=
  ⟨⟨rfl, .nil, fun k a l h1 => by simp at h1⟩, fun b o e => (mask_sub e).1, fun a ha => by cases ha⟩
theorem keepOut (hk : ∀ b o, c.h₀.get? b = some o → (mask h S).get? b = some o) {ρ' : List Addr} {σ' : Store} {h' : Heap} (O' : Ok (c.at_ h S hk) ρ' σ' h') : ∀ b o, b ∉ S → h.get? b = some o → h'.get? b = some o := fun b o hb e =>
  O'.base b o (by show (mask h S).get? b = some o; rw [mask_out hb]; exact e)
theorem Ok.after {h' : Heap} (O : Ok c ρ σ h) (hS : ∀ a ∈ S, c.h₀.get? a = none ∧ a ∉ ρ ∧ ∀ vals n, h.get? a ≠ some { cls := .type "tuple", data := .seq vals n }) (hk : ∀ b o, b ∉ S → h.get? b = some o → h'.get? b = some o) : Ok c ρ σ h' := by
  have up : ∀ a vs m, h.get? a = some { cls := .type "tuple", data := .seq vs m } → h'.get? a = some { cls := .type "tuple", data := .seq vs m } := fun a vs m e => hk _ _ (fun q => (hS a q).2.2 _ _ e) e
  refine ⟨⟨O.st.len, O.st.nd, fun k a l h1 h2 => ?_⟩, fun b o e => hk b o (fun q => by rw [(hS b q).1] at e; cases e) (O.base b o e), O.off⟩
  obtain ⟨vals, n, g, r⟩ := O.st.lst k a l h1 h2
  exact ⟨vals, n, hk _ _ (fun q => (hS a q).2.1 (List.mem_of_getElem? h1)) g, r.mono ⟨[], by simp⟩ up⟩
theorem Rv.at_ {hk : ∀ b o, c.h₀.get? b = some o → (mask h S).get? b = some o} {ρ' : List Addr} {h' : Heap} {x : Value} {v : V} : Rv (c.at_ h S hk).T ρ' h' x v ↔ Rv c.T ρ' h' x v := Iff.rfl
end
end Mine
end
section
open PySem PySem.W PyProof.Rows PySem.Calls
set_option maxRecDepth 100000
set_option linter.unusedVariables false
set_option autoImplicit false
namespace Mine

noncomputable def nm0 (i : Nat) : Str := Str.ofString (tb.getD i "")
/-- a number for a name: the names stand in the order of their numbers -/
noncomputable def codeS (s : Str) : Nat := s.cps.toList.foldl (fun r ch => r * 256 + ch + 1) 0
noncomputable def rising : List Nat → Bool
  | [] => true
  | x :: r => (match r with | [] => true | y :: _ => Nat.blt x y) && rising r
theorem rising_ok : rising (tb.map fun s => codeS (Str.ofString s)) = true := by kernel_rfl
theorem rising_lt : ∀ {l : List Nat}, rising l = true → ∀ {i j : Nat} {x y : Nat}, l[i]? = some x → l[j]? = some y → i < j → x < y
  | a :: r, h, 0, j + 1, x, y, h1, h2, _ => by
    have hr := (Bool.and_eq_true_iff.mp h).2
    have h0 := (Bool.and_eq_true_iff.mp h).1
    simp at h1 h2
    subst h1
    cases r with
    | nil => simp at h2
    | cons b r =>
      have hb : a < b := Nat.le_of_ble_eq_true h0
      cases j with
      | zero => simp at h2; omega
      | succ j => exact Nat.lt_trans hb (rising_lt hr (i := 0) (j := j + 1) rfl (by simpa using h2) (by omega))
  | a :: r, h, i + 1, j + 1, x, y, h1, h2, hl => rising_lt (Bool.and_eq_true_iff.mp h).2 (by simpa using h1) (by simpa using h2) (by omega)
theorem nm0_at {i : Nat} (h : i < tb.length) : (tb.map fun s => codeS (Str.ofString s))[i]? = some (codeS (nm0 i)) := by
  rw [List.getElem?_map, List.getElem?_eq_getElem h]
  unfold nm0
  rw [List.getD_eq_getElem?_getD, List.getElem?_eq_getElem h]
  rfl
theorem nm0_dbg : (tb.all fun s => !(Str.ofString s == ("__debug__" : Str))) = true := by kernel_rfl
noncomputable def T0 : Tab where
  nm := nm0
  n := tb.length
  inj := fun i j hi hj e => by
    have a := nm0_at hi
    have b := nm0_at hj
    rw [e] at a
    rcases Nat.lt_trichotomy i j with h | h | h
    · exact absurd (rising_lt rising_ok a b h) (Nat.lt_irrefl _)
    · exact h
    · exact absurd (rising_lt rising_ok b a h) (Nat.lt_irrefl _)
  dbg := fun i hi => by
    have := List.all_eq_true.mp nm0_dbg _ (List.getElem_mem hi)
    unfold nm0
    rw [List.getD_eq_getElem?_getD, List.getElem?_eq_getElem hi]
    simpa using this

noncomputable def eqK : Option NameKind → NameKind → Bool
  | some .local, .local => true
  | some .cell, .cell => true
  | some .globalImplicit, .globalImplicit => true
  | _, _ => false
theorem eqK_ok {o : Option NameKind} {k : NameKind} (h : eqK o k = true) : o = some k := by
  unfold eqK at h
  split at h <;> first | rfl | cases h
/-- the names of a function are well told -/
noncomputable def fnNames (T : Tab) (fn : Fn) (names : List (Str × NameKind)) : Bool :=
  (fn.params ++ fn.sc.loc ++ fn.sc.cel ++ fn.sc.glb).all (fun x => Nat.blt x T.n) && fn.sc.loc.all (fun x => eqK (names.lookup (T.nm x)) .local) && fn.sc.cel.all (fun x => eqK (names.lookup (T.nm x)) .cell)
    && fn.sc.glb.all (fun x => eqK (names.lookup (T.nm x)) .globalImplicit) && fn.params.all (fun x => memN x fn.sc.loc || memN x fn.sc.cel) && distinct fn.params
theorem fnAt_of {c : Cx} {f : Nat} {fn : Fn} {a : Addr} {o : Obj} {fd : FuncData} (h1 : c.mg (c.T.nm f) = some (.ref a)) (h2 : c.h₀.get? a = some o) (h3 : o.data = .func fd) (h4 : fd.body = .stmts (dSs c.T fn.body)) (h5 : fd.closure = []) (h6 : fd.globals = mainGlobals) (h7 : fd.builtins = builtinsNs)
    (h8 : c.h₀.CodeRec fd.code fd.qualname) (h9 : fd.scope.kind = .function) (h10 : fd.scope.isCoroutine = false) (h11 : fd.scope.isGenerator = false) (h12 : ∀ vals : List Value, vals.length = fn.params.length → bindArgs fd ⟨vals, []⟩ = pure ((fn.params.map c.T.nm).zip vals))
    (h13 : fnNames c.T fn fd.scope.names = true) : FnAt c f fn a o fd := by
  unfold fnNames at h13
  simp only [Bool.and_eq_true] at h13
  obtain ⟨⟨⟨⟨⟨k1, k2⟩, k3⟩, k4⟩, k5⟩, k6⟩ := h13
  refine ⟨h1, h2, h3, h4, h5, h6, h7, h8, h9, h10, h11, h12, fun x hx => Nat.le_of_ble_eq_true (List.all_eq_true.mp k1 x hx), fun x hx => eqK_ok (List.all_eq_true.mp k2 x hx), fun x hx => eqK_ok (List.all_eq_true.mp k3 x hx), fun x hx => eqK_ok (List.all_eq_true.mp k4 x hx), fun x hx => ?_, distinct_pw k6⟩
  have := List.all_eq_true.mp k5 x hx
  rcases Bool.or_eq_true_iff.mp this with h | h
  · exact .inl (memN_iff.mp h)
  · exact .inr (memN_iff.mp h)
end Mine
end
section
open PySem PySem.W PyProof.Rows PySem.Calls
set_option maxRecDepth 100000
set_option autoImplicit false
set_option linter.unusedVariables false
namespace Mine
section
variable {c : Cx} {P : Params}
theorem at_f_bare (hT : c.T = T0) (X : (KF P).In c.h₀) : ∃ a o fd, FnAt c 31 f_bare a o fd := by
  have e1 : nsIn (KF P) mainGlobals (T0.nm 31) = some (some (.ref ?a)) := by rfl
  have e2 : (KF P).lookup ?a = some ?o := by rfl
  refine ⟨_, _, _, fnAt_of (hT ▸ mg_of X c.hg e1) (X _ _ e2) rfl ?_ rfl rfl rfl (codeRec_of X ?_) rfl rfl rfl ?_ ?_⟩
  · rw [hT]; rfl
  · rfl
  · intro vals h
    rw [hT]
    rcases vals with _ | ⟨x0, _ | ⟨x1, r⟩⟩ <;> first | (cases h; done) | rfl
  · rw [hT]; rfl
theorem at_f_opened (hT : c.T = T0) (X : (KF P).In c.h₀) : ∃ a o fd, FnAt c 99 f_opened a o fd := by
  have e1 : nsIn (KF P) mainGlobals (T0.nm 99) = some (some (.ref ?a)) := by rfl
  have e2 : (KF P).lookup ?a = some ?o := by rfl
  refine ⟨_, _, _, fnAt_of (hT ▸ mg_of X c.hg e1) (X _ _ e2) rfl ?_ rfl rfl rfl (codeRec_of X ?_) rfl rfl rfl ?_ ?_⟩
  · rw [hT]; rfl
  · rfl
  · intro vals h
    rw [hT]
    rcases vals with _ | ⟨x0, _ | ⟨x1, r⟩⟩ <;> first | (cases h; done) | rfl
  · rw [hT]; rfl
theorem at_f_constructors (hT : c.T = T0) (X : (KF P).In c.h₀) : ∃ a o fd, FnAt c 149 f_constructors a o fd := by
  have e1 : nsIn (KF P) mainGlobals (T0.nm 149) = some (some (.ref ?a)) := by rfl
  have e2 : (KF P).lookup ?a = some ?o := by rfl
  refine ⟨_, _, _, fnAt_of (hT ▸ mg_of X c.hg e1) (X _ _ e2) rfl ?_ rfl rfl rfl (codeRec_of X ?_) rfl rfl rfl ?_ ?_⟩
  · rw [hT]; rfl
  · rfl
  · intro vals h
    rw [hT]
    rcases vals with _ | ⟨x0, _ | ⟨x1, _ | ⟨x2, _ | ⟨x3, r⟩⟩⟩⟩ <;> first | (cases h; done) | rfl
  · rw [hT]; rfl
theorem at_f_parts_of (hT : c.T = T0) (X : (KF P).In c.h₀) : ∃ a o fd, FnAt c 156 f_parts_of a o fd := by
  have e1 : nsIn (KF P) mainGlobals (T0.nm 156) = some (some (.ref ?a)) := by rfl
  have e2 : (KF P).lookup ?a = some ?o := by rfl
  refine ⟨_, _, _, fnAt_of (hT ▸ mg_of X c.hg e1) (X _ _ e2) rfl ?_ rfl rfl rfl (codeRec_of X ?_) rfl rfl rfl ?_ ?_⟩
  · rw [hT]; rfl
  · rfl
  · intro vals h
    rw [hT]
    rcases vals with _ | ⟨x0, _ | ⟨x1, _ | ⟨x2, _ | ⟨x3, r⟩⟩⟩⟩ <;> first | (cases h; done) | rfl
  · rw [hT]; rfl
theorem at_f_taken (hT : c.T = T0) (X : (KF P).In c.h₀) : ∃ a o fd, FnAt c 83 f_taken a o fd := by
  have e1 : nsIn (KF P) mainGlobals (T0.nm 83) = some (some (.ref ?a)) := by rfl
  have e2 : (KF P).lookup ?a = some ?o := by rfl
  refine ⟨_, _, _, fnAt_of (hT ▸ mg_of X c.hg e1) (X _ _ e2) rfl ?_ rfl rfl rfl (codeRec_of X ?_) rfl rfl rfl ?_ ?_⟩
  · rw [hT]; rfl
  · rfl
  · intro vals h
    rw [hT]
    rcases vals with _ | ⟨x0, _ | ⟨x1, _ | ⟨x2, _ | ⟨x3, r⟩⟩⟩⟩ <;> first | (cases h; done) | rfl
  · rw [hT]; rfl
theorem at_f_narrowed (hT : c.T = T0) (X : (KF P).In c.h₀) : ∃ a o fd, FnAt c 123 f_narrowed a o fd := by
  have e1 : nsIn (KF P) mainGlobals (T0.nm 123) = some (some (.ref ?a)) := by rfl
  have e2 : (KF P).lookup ?a = some ?o := by rfl
  refine ⟨_, _, _, fnAt_of (hT ▸ mg_of X c.hg e1) (X _ _ e2) rfl ?_ rfl rfl rfl (codeRec_of X ?_) rfl rfl rfl ?_ ?_⟩
  · rw [hT]; rfl
  · rfl
  · intro vals h
    rw [hT]
    rcases vals with _ | ⟨x0, _ | ⟨x1, _ | ⟨x2, _ | ⟨x3, r⟩⟩⟩⟩ <;> first | (cases h; done) | rfl
  · rw [hT]; rfl
theorem at_f_rest_of (hT : c.T = T0) (X : (KF P).In c.h₀) : ∃ a o fd, FnAt c 113 f_rest_of a o fd := by
  have e1 : nsIn (KF P) mainGlobals (T0.nm 113) = some (some (.ref ?a)) := by rfl
  have e2 : (KF P).lookup ?a = some ?o := by rfl
  refine ⟨_, _, _, fnAt_of (hT ▸ mg_of X c.hg e1) (X _ _ e2) rfl ?_ rfl rfl rfl (codeRec_of X ?_) rfl rfl rfl ?_ ?_⟩
  · rw [hT]; rfl
  · rfl
  · intro vals h
    rw [hT]
    rcases vals with _ | ⟨x0, _ | ⟨x1, r⟩⟩ <;> first | (cases h; done) | rfl
  · rw [hT]; rfl
theorem at_f_are_wild (hT : c.T = T0) (X : (KF P).In c.h₀) : ∃ a o fd, FnAt c 118 f_are_wild a o fd := by
  have e1 : nsIn (KF P) mainGlobals (T0.nm 118) = some (some (.ref ?a)) := by rfl
  have e2 : (KF P).lookup ?a = some ?o := by rfl
  refine ⟨_, _, _, fnAt_of (hT ▸ mg_of X c.hg e1) (X _ _ e2) rfl ?_ rfl rfl rfl (codeRec_of X ?_) rfl rfl rfl ?_ ?_⟩
  · rw [hT]; rfl
  · rfl
  · intro vals h
    rw [hT]
    rcases vals with _ | ⟨x0, _ | ⟨x1, r⟩⟩ <;> first | (cases h; done) | rfl
  · rw [hT]; rfl
theorem at_f_is_useful (hT : c.T = T0) (X : (KF P).In c.h₀) : ∃ a o fd, FnAt c 140 f_is_useful a o fd := by
  have e1 : nsIn (KF P) mainGlobals (T0.nm 140) = some (some (.ref ?a)) := by rfl
  have e2 : (KF P).lookup ?a = some ?o := by rfl
  refine ⟨_, _, _, fnAt_of (hT ▸ mg_of X c.hg e1) (X _ _ e2) rfl ?_ rfl rfl rfl (codeRec_of X ?_) rfl rfl rfl ?_ ?_⟩
  · rw [hT]; rfl
  · rfl
  · intro vals h
    rw [hT]
    rcases vals with _ | ⟨x0, _ | ⟨x1, _ | ⟨x2, _ | ⟨x3, _ | ⟨x4, r⟩⟩⟩⟩⟩ <;> first | (cases h; done) | rfl
  · rw [hT]; rfl
theorem at_f_is_useful_by_parts (hT : c.T = T0) (X : (KF P).In c.h₀) : ∃ a o fd, FnAt c 154 f_is_useful_by_parts a o fd := by
  have e1 : nsIn (KF P) mainGlobals (T0.nm 154) = some (some (.ref ?a)) := by rfl
  have e2 : (KF P).lookup ?a = some ?o := by rfl
  refine ⟨_, _, _, fnAt_of (hT ▸ mg_of X c.hg e1) (X _ _ e2) rfl ?_ rfl rfl rfl (codeRec_of X ?_) rfl rfl rfl ?_ ?_⟩
  · rw [hT]; rfl
  · rfl
  · intro vals h
    rw [hT]
    rcases vals with _ | ⟨x0, _ | ⟨x1, _ | ⟨x2, _ | ⟨x3, _ | ⟨x4, r⟩⟩⟩⟩⟩ <;> first | (cases h; done) | rfl
  · rw [hT]; rfl
theorem at_f_rebuilt (hT : c.T = T0) (X : (KF P).In c.h₀) : ∃ a o fd, FnAt c 155 f_rebuilt a o fd := by
  have e1 : nsIn (KF P) mainGlobals (T0.nm 155) = some (some (.ref ?a)) := by rfl
  have e2 : (KF P).lookup ?a = some ?o := by rfl
  refine ⟨_, _, _, fnAt_of (hT ▸ mg_of X c.hg e1) (X _ _ e2) rfl ?_ rfl rfl rfl (codeRec_of X ?_) rfl rfl rfl ?_ ?_⟩
  · rw [hT]; rfl
  · rfl
  · intro vals h
    rw [hT]
    rcases vals with _ | ⟨x0, _ | ⟨x1, _ | ⟨x2, _ | ⟨x3, r⟩⟩⟩⟩ <;> first | (cases h; done) | rfl
  · rw [hT]; rfl
theorem at_f_left_out (hT : c.T = T0) (X : (KF P).In c.h₀) : ∃ a o fd, FnAt c 122 f_left_out a o fd := by
  have e1 : nsIn (KF P) mainGlobals (T0.nm 122) = some (some (.ref ?a)) := by rfl
  have e2 : (KF P).lookup ?a = some ?o := by rfl
  refine ⟨_, _, _, fnAt_of (hT ▸ mg_of X c.hg e1) (X _ _ e2) rfl ?_ rfl rfl rfl (codeRec_of X ?_) rfl rfl rfl ?_ ?_⟩
  · rw [hT]; rfl
  · rfl
  · intro vals h
    rw [hT]
    rcases vals with _ | ⟨x0, _ | ⟨x1, _ | ⟨x2, _ | ⟨x3, r⟩⟩⟩⟩ <;> first | (cases h; done) | rfl
  · rw [hT]; rfl
theorem at_f_left_out_wild (hT : c.T = T0) (X : (KF P).In c.h₀) : ∃ a o fd, FnAt c 151 f_left_out_wild a o fd := by
  have e1 : nsIn (KF P) mainGlobals (T0.nm 151) = some (some (.ref ?a)) := by rfl
  have e2 : (KF P).lookup ?a = some ?o := by rfl
  refine ⟨_, _, _, fnAt_of (hT ▸ mg_of X c.hg e1) (X _ _ e2) rfl ?_ rfl rfl rfl (codeRec_of X ?_) rfl rfl rfl ?_ ?_⟩
  · rw [hT]; rfl
  · rfl
  · intro vals h
    rw [hT]
    rcases vals with _ | ⟨x0, _ | ⟨x1, _ | ⟨x2, _ | ⟨x3, r⟩⟩⟩⟩ <;> first | (cases h; done) | rfl
  · rw [hT]; rfl
theorem at_f_has_value (hT : c.T = T0) (X : (KF P).In c.h₀) : ∃ a o fd, FnAt c 139 f_has_value a o fd := by
  have e1 : nsIn (KF P) mainGlobals (T0.nm 139) = some (some (.ref ?a)) := by rfl
  have e2 : (KF P).lookup ?a = some ?o := by rfl
  refine ⟨_, _, _, fnAt_of (hT ▸ mg_of X c.hg e1) (X _ _ e2) rfl ?_ rfl rfl rfl (codeRec_of X ?_) rfl rfl rfl ?_ ?_⟩
  · rw [hT]; rfl
  · rfl
  · intro vals h
    rw [hT]
    rcases vals with _ | ⟨x0, _ | ⟨x1, _ | ⟨x2, _ | ⟨x3, r⟩⟩⟩⟩ <;> first | (cases h; done) | rfl
  · rw [hT]; rfl
theorem at_f_missing (hT : c.T = T0) (X : (KF P).In c.h₀) : ∃ a o fd, FnAt c 111 f_missing a o fd := by
  have e1 : nsIn (KF P) mainGlobals (T0.nm 111) = some (some (.ref ?a)) := by rfl
  have e2 : (KF P).lookup ?a = some ?o := by rfl
  refine ⟨_, _, _, fnAt_of (hT ▸ mg_of X c.hg e1) (X _ _ e2) rfl ?_ rfl rfl rfl (codeRec_of X ?_) rfl rfl rfl ?_ ?_⟩
  · rw [hT]; rfl
  · rfl
  · intro vals h
    rw [hT]
    rcases vals with _ | ⟨x0, _ | ⟨x1, _ | ⟨x2, _ | ⟨x3, r⟩⟩⟩⟩ <;> first | (cases h; done) | rfl
  · rw [hT]; rfl
theorem at_f_useless (hT : c.T = T0) (X : (KF P).In c.h₀) : ∃ a o fd, FnAt c 114 f_useless a o fd := by
  have e1 : nsIn (KF P) mainGlobals (T0.nm 114) = some (some (.ref ?a)) := by rfl
  have e2 : (KF P).lookup ?a = some ?o := by rfl
  refine ⟨_, _, _, fnAt_of (hT ▸ mg_of X c.hg e1) (X _ _ e2) rfl ?_ rfl rfl rfl (codeRec_of X ?_) rfl rfl rfl ?_ ?_⟩
  · rw [hT]; rfl
  · rfl
  · intro vals h
    rw [hT]
    rcases vals with _ | ⟨x0, _ | ⟨x1, _ | ⟨x2, _ | ⟨x3, r⟩⟩⟩⟩ <;> first | (cases h; done) | rfl
  · rw [hT]; rfl
theorem at_f_inner_of (hT : c.T = T0) (X : (KF P).In c.h₀) : ∃ a o fd, FnAt c 121 f_inner_of a o fd := by
  have e1 : nsIn (KF P) mainGlobals (T0.nm 121) = some (some (.ref ?a)) := by rfl
  have e2 : (KF P).lookup ?a = some ?o := by rfl
  refine ⟨_, _, _, fnAt_of (hT ▸ mg_of X c.hg e1) (X _ _ e2) rfl ?_ rfl rfl rfl (codeRec_of X ?_) rfl rfl rfl ?_ ?_⟩
  · rw [hT]; rfl
  · rfl
  · intro vals h
    rw [hT]
    rcases vals with _ | ⟨x0, _ | ⟨x1, r⟩⟩ <;> first | (cases h; done) | rfl
  · rw [hT]; rfl
theorem at_f_inner_of_match (hT : c.T = T0) (X : (KF P).In c.h₀) : ∃ a o fd, FnAt c 153 f_inner_of_match a o fd := by
  have e1 : nsIn (KF P) mainGlobals (T0.nm 153) = some (some (.ref ?a)) := by rfl
  have e2 : (KF P).lookup ?a = some ?o := by rfl
  refine ⟨_, _, _, fnAt_of (hT ▸ mg_of X c.hg e1) (X _ _ e2) rfl ?_ rfl rfl rfl (codeRec_of X ?_) rfl rfl rfl ?_ ?_⟩
  · rw [hT]; rfl
  · rfl
  · intro vals h
    rw [hT]
    rcases vals with _ | ⟨x0, _ | ⟨x1, r⟩⟩ <;> first | (cases h; done) | rfl
  · rw [hT]; rfl
theorem at_f_inner_of_block (hT : c.T = T0) (X : (KF P).In c.h₀) : ∃ a o fd, FnAt c 152 f_inner_of_block a o fd := by
  have e1 : nsIn (KF P) mainGlobals (T0.nm 152) = some (some (.ref ?a)) := by rfl
  have e2 : (KF P).lookup ?a = some ?o := by rfl
  refine ⟨_, _, _, fnAt_of (hT ▸ mg_of X c.hg e1) (X _ _ e2) rfl ?_ rfl rfl rfl (codeRec_of X ?_) rfl rfl rfl ?_ ?_⟩
  · rw [hT]; rfl
  · rfl
  · intro vals h
    rw [hT]
    rcases vals with _ | ⟨x0, _ | ⟨x1, r⟩⟩ <;> first | (cases h; done) | rfl
  · rw [hT]; rfl
theorem at_f_check_arms (hT : c.T = T0) (X : (KF P).In c.h₀) : ∃ a o fd, FnAt c 145 f_check_arms a o fd := by
  have e1 : nsIn (KF P) mainGlobals (T0.nm 145) = some (some (.ref ?a)) := by rfl
  have e2 : (KF P).lookup ?a = some ?o := by rfl
  refine ⟨_, _, _, fnAt_of (hT ▸ mg_of X c.hg e1) (X _ _ e2) rfl ?_ rfl rfl rfl (codeRec_of X ?_) rfl rfl rfl ?_ ?_⟩
  · rw [hT]; rfl
  · rfl
  · intro vals h
    rw [hT]
    rcases vals with _ | ⟨x0, _ | ⟨x1, _ | ⟨x2, r⟩⟩⟩ <;> first | (cases h; done) | rfl
  · rw [hT]; rfl
theorem at_f_check_lets (hT : c.T = T0) (X : (KF P).In c.h₀) : ∃ a o fd, FnAt c 146 f_check_lets a o fd := by
  have e1 : nsIn (KF P) mainGlobals (T0.nm 146) = some (some (.ref ?a)) := by rfl
  have e2 : (KF P).lookup ?a = some ?o := by rfl
  refine ⟨_, _, _, fnAt_of (hT ▸ mg_of X c.hg e1) (X _ _ e2) rfl ?_ rfl rfl rfl (codeRec_of X ?_) rfl rfl rfl ?_ ?_⟩
  · rw [hT]; rfl
  · rfl
  · intro vals h
    rw [hT]
    rcases vals with _ | ⟨x0, _ | ⟨x1, _ | ⟨x2, r⟩⟩⟩ <;> first | (cases h; done) | rfl
  · rw [hT]; rfl
theorem at_f_law_pool (hT : c.T = T0) (X : (KF P).In c.h₀) : ∃ a o fd, FnAt c 133 f_law_pool a o fd := by
  have e1 : nsIn (KF P) mainGlobals (T0.nm 133) = some (some (.ref ?a)) := by rfl
  have e2 : (KF P).lookup ?a = some ?o := by rfl
  refine ⟨_, _, _, fnAt_of (hT ▸ mg_of X c.hg e1) (X _ _ e2) rfl ?_ rfl rfl rfl (codeRec_of X ?_) rfl rfl rfl ?_ ?_⟩
  · rw [hT]; rfl
  · rfl
  · intro vals h
    rw [hT]
    rcases vals with _ | ⟨x0, _ | ⟨x1, _ | ⟨x2, r⟩⟩⟩ <;> first | (cases h; done) | rfl
  · rw [hT]; rfl
theorem at_f_law_take (hT : c.T = T0) (X : (KF P).In c.h₀) : ∃ a o fd, FnAt c 134 f_law_take a o fd := by
  have e1 : nsIn (KF P) mainGlobals (T0.nm 134) = some (some (.ref ?a)) := by rfl
  have e2 : (KF P).lookup ?a = some ?o := by rfl
  refine ⟨_, _, _, fnAt_of (hT ▸ mg_of X c.hg e1) (X _ _ e2) rfl ?_ rfl rfl rfl (codeRec_of X ?_) rfl rfl rfl ?_ ?_⟩
  · rw [hT]; rfl
  · rfl
  · intro vals h
    rw [hT]
    rcases vals with _ | ⟨x0, _ | ⟨x1, _ | ⟨x2, r⟩⟩⟩ <;> first | (cases h; done) | rfl
  · rw [hT]; rfl
theorem at_f_law_one (hT : c.T = T0) (X : (KF P).In c.h₀) : ∃ a o fd, FnAt c 117 f_law_one a o fd := by
  have e1 : nsIn (KF P) mainGlobals (T0.nm 117) = some (some (.ref ?a)) := by rfl
  have e2 : (KF P).lookup ?a = some ?o := by rfl
  refine ⟨_, _, _, fnAt_of (hT ▸ mg_of X c.hg e1) (X _ _ e2) rfl ?_ rfl rfl rfl (codeRec_of X ?_) rfl rfl rfl ?_ ?_⟩
  · rw [hT]; rfl
  · rfl
  · intro vals h
    rw [hT]
    rcases vals with _ | ⟨x0, _ | ⟨x1, _ | ⟨x2, r⟩⟩⟩ <;> first | (cases h; done) | rfl
  · rw [hT]; rfl
theorem at_f_law_bool (hT : c.T = T0) (X : (KF P).In c.h₀) : ∃ a o fd, FnAt c 131 f_law_bool a o fd := by
  have e1 : nsIn (KF P) mainGlobals (T0.nm 131) = some (some (.ref ?a)) := by rfl
  have e2 : (KF P).lookup ?a = some ?o := by rfl
  refine ⟨_, _, _, fnAt_of (hT ▸ mg_of X c.hg e1) (X _ _ e2) rfl ?_ rfl rfl rfl (codeRec_of X ?_) rfl rfl rfl ?_ ?_⟩
  · rw [hT]; rfl
  · rfl
  · intro vals h
    rw [hT]
    rcases vals with _ | ⟨x0, r⟩ <;> first | (cases h; done) | rfl
  · rw [hT]; rfl
theorem at_f_law_arms (hT : c.T = T0) (X : (KF P).In c.h₀) : ∃ a o fd, FnAt c 130 f_law_arms a o fd := by
  have e1 : nsIn (KF P) mainGlobals (T0.nm 130) = some (some (.ref ?a)) := by rfl
  have e2 : (KF P).lookup ?a = some ?o := by rfl
  refine ⟨_, _, _, fnAt_of (hT ▸ mg_of X c.hg e1) (X _ _ e2) rfl ?_ rfl rfl rfl (codeRec_of X ?_) rfl rfl rfl ?_ ?_⟩
  · rw [hT]; rfl
  · rfl
  · intro vals h
    rw [hT]
    rcases vals with _ | ⟨x0, r⟩ <;> first | (cases h; done) | rfl
  · rw [hT]; rfl
theorem at_f_law_node (hT : c.T = T0) (X : (KF P).In c.h₀) : ∃ a o fd, FnAt c 132 f_law_node a o fd := by
  have e1 : nsIn (KF P) mainGlobals (T0.nm 132) = some (some (.ref ?a)) := by rfl
  have e2 : (KF P).lookup ?a = some ?o := by rfl
  refine ⟨_, _, _, fnAt_of (hT ▸ mg_of X c.hg e1) (X _ _ e2) rfl ?_ rfl rfl rfl (codeRec_of X ?_) rfl rfl rfl ?_ ?_⟩
  · rw [hT]; rfl
  · rfl
  · intro vals h
    rw [hT]
    rcases vals with _ | ⟨x0, _ | ⟨x1, _ | ⟨x2, _ | ⟨x3, r⟩⟩⟩⟩ <;> first | (cases h; done) | rfl
  · rw [hT]; rfl
theorem at_f_check_matches (hT : c.T = T0) (X : (KF P).In c.h₀) : ∃ a o fd, FnAt c 150 f_check_matches a o fd := by
  have e1 : nsIn (KF P) mainGlobals (T0.nm 150) = some (some (.ref ?a)) := by rfl
  have e2 : (KF P).lookup ?a = some ?o := by rfl
  refine ⟨_, _, _, fnAt_of (hT ▸ mg_of X c.hg e1) (X _ _ e2) rfl ?_ rfl rfl rfl (codeRec_of X ?_) rfl rfl rfl ?_ ?_⟩
  · rw [hT]; rfl
  · rfl
  · intro vals h
    rw [hT]
    rcases vals with _ | ⟨x0, _ | ⟨x1, _ | ⟨x2, r⟩⟩⟩ <;> first | (cases h; done) | rfl
  · rw [hT]; rfl
theorem fns_at (hT : c.T = T0) (X : (KF P).In c.h₀) : ∀ q ∈ fns, ∃ a o fd, FnAt c q.1 q.2 a o fd :=
  List.forall_mem_cons.mpr ⟨at_f_bare hT X, List.forall_mem_cons.mpr ⟨at_f_opened hT X, List.forall_mem_cons.mpr ⟨at_f_constructors hT X, List.forall_mem_cons.mpr ⟨at_f_parts_of hT X, List.forall_mem_cons.mpr ⟨at_f_taken hT X, List.forall_mem_cons.mpr ⟨at_f_narrowed hT X, List.forall_mem_cons.mpr ⟨at_f_rest_of hT X, List.forall_mem_cons.mpr ⟨at_f_are_wild hT X, List.forall_mem_cons.mpr ⟨at_f_is_useful hT X, List.forall_mem_cons.mpr ⟨at_f_is_useful_by_parts hT X, List.forall_mem_cons.mpr ⟨at_f_rebuilt hT X, List.forall_mem_cons.mpr ⟨at_f_left_out hT X, List.forall_mem_cons.mpr ⟨at_f_left_out_wild hT X, List.forall_mem_cons.mpr ⟨at_f_has_value hT X, List.forall_mem_cons.mpr ⟨at_f_missing hT X, List.forall_mem_cons.mpr ⟨at_f_useless hT X, List.forall_mem_cons.mpr ⟨at_f_inner_of hT X, List.forall_mem_cons.mpr ⟨at_f_inner_of_match hT X, List.forall_mem_cons.mpr ⟨at_f_inner_of_block hT X, List.forall_mem_cons.mpr ⟨at_f_check_arms hT X, List.forall_mem_cons.mpr ⟨at_f_check_lets hT X, List.forall_mem_cons.mpr ⟨at_f_law_pool hT X, List.forall_mem_cons.mpr ⟨at_f_law_take hT X, List.forall_mem_cons.mpr ⟨at_f_law_one hT X, List.forall_mem_cons.mpr ⟨at_f_law_bool hT X, List.forall_mem_cons.mpr ⟨at_f_law_arms hT X, List.forall_mem_cons.mpr ⟨at_f_law_node hT X, (fun _ h => absurd h List.not_mem_nil)⟩⟩⟩⟩⟩⟩⟩⟩⟩⟩⟩⟩⟩⟩⟩⟩⟩⟩⟩⟩⟩⟩⟩⟩⟩⟩⟩
end
end Mine
end
section
open PySem PySem.W
open Sem (wp)
set_option maxRecDepth 100000
set_option linter.unusedVariables false
set_option autoImplicit false
namespace Mine

section
variable {prog : Program} {w : World} {A : Around} {E : Value → Shared → Prop} {R : Result → Shared → Prop} {h : Heap} {g : Array GenState} {d : Drawn} {t : Nat} {os : OsState}
variable {nm q : Str} {C N : Addr} {bs bm : List Value} {hdct : Bool} {sn : List Str} {sub : List Value} {ab : Bool} {col : Option Bool} {dd : Option Addr} {k0 k1 k2 k3 k5 : Option Value} {B newId initId : String} {bmN : List Value}

theorem exc_new (Fn : ExcBaseFacts B newId initId bmN) (hcB : (Value.ref C :: bm).contains (.type B) = true) (hcA : (Value.ref C :: bm).contains (.type "AttributeError") = false) (hcN : (Value.ref C :: bm).contains (.type "NameError") = false) {rest : List Value}
    (hC : h.get? C = some (excClassObj nm q C N bs bm hdct sn sub ab col dd k0 k1 k2 k3 k5 newId))
    (hq : R (.ok (.ret (.ref (h.objs.size + 1)))) ⟨(h.push { cls := .type "tuple", data := .seq rest.toArray }).push
      { cls := .ref C, data := .fields #[.ref h.objs.size, .none, .none, .none, .bool false, .none] }, g, d, t, os⟩) (hrest : rest.length ≤ sizeLine) :
    codeAny (model prog w) A (.builtin newId ⟨.ref C :: rest, []⟩) R ⟨h, g, d, t, os⟩ := by
  have hends := Fn.ends
  refine codeAny_builtinAt Fn.entry ?_
  unfold Builtin.«BaseException.__new__»
  refine wpAt_bind ?_
  show wpAt _ _ _ (stack >>= _) _ _ _
  refine wpAt_bind (wpAt_stack fun p below => wpAt_of_wpAny ?_)
  wp_walk
  refine wpAt_of_wpAny ?_
  rw [Fn.owner]
  repeat (first | with_reducible refine wpAny_madeHere_exc Fn.canon hC ?_ | with_reducible refine wpAny_loadPart_at hC ?_ | (with_reducible refine wpAny_isSubtype_exc hC ?_; first | rw [hcB] | rw [hcA] | rw [hcN]) | wp_step)
  show R _ _
  rw [Heap.size_push]
  exact hq

theorem exc_type_call (Fn : ExcBaseFacts B newId initId bmN) {K : Frag} (X : K.In h) (hcB : bm.contains (.type B) = true) (hcA : bm.contains (.type "AttributeError") = false) (hcN : bm.contains (.type "NameError") = false) {rest : List Value} {fI : Addr} {oI : Obj} {Q : Fin → Shared → Prop}
    (hC : h.get? C = some (excClassObj nm q C N bs bm hdct sn sub ab col dd k0 k1 k2 k3 k5 newId)) (hi : findIn K (.ref C) "__init__" = some (some (.ref fI)))
    (hfI : h.get? fI = some oI) (hfc : oI.cls = .type "function")
    (hq : ∀ h' e, Heap.MadeExcOf h h' e (.ref C) rest →
      wpAny (model prog w) A (call (.ref fI) (.ref e :: rest)) (fun r s' => r = .none ∧ Q (.done (.ret (.ref e))) s') E ⟨h', g, d, t, os⟩) (hrest : rest.length ≤ sizeLine) :
    wpAny (model prog w) A (Builtin.«type.__call__» ⟨.ref C :: rest, []⟩) Q E ⟨h, g, d, t, os⟩ := by
  repeat (first | with_reducible refine wpAny_loadPart_at hC ?_ | with_reducible refine wpAny_madeBy_exc hC ?_ | wp_step)
  refine codeAny_call_builtin_code (Code.quiet_builtin _ Fn.quiet) (wpAny_check_new_subU Fn (bmB := bm) hcB .base hC ?_)
  refine exc_new Fn (by rw [List.contains_cons, hcB, Bool.or_true]) (by rw [List.contains_cons, hcA]; rfl) (by rw [List.contains_cons, hcN]; rfl) hC ?_ hrest
  show wpAny _ _ _ _ _ _
  have keep : ∀ b o, h.get? b = some o → ((h.push { cls := .type "tuple", data := .seq rest.toArray }).push { cls := .ref C, data := .fields #[.ref h.objs.size, .none, .none, .none, .bool false, .none] }).get? b = some o := fun b o e => Heap.get?_push_of_some _ (Heap.get?_push_of_some _ e)
  have hC₁ := keep _ _ hC
  have hfI₁ := keep _ _ hfI
  have hget : ((h.push { cls := .type "tuple", data := .seq rest.toArray }).push
      { cls := .ref C, data := .fields #[.ref h.objs.size, .none, .none, .none, .bool false, .none] }).get? (h.objs.size + 1) = some
      { cls := .ref C, data := .fields #[.ref h.objs.size, .none, .none, .none, .bool false, .none] } := by heap_get
  have hcC : (Value.ref C :: bm).contains (.ref C) = true := by simp
  unfold isInstance
  repeat (first | with_reducible refine wpAny_loadPart_at hget ?_ | (with_reducible refine wpAny_isSubtype_exc hC₁ ?_; rw [hcC]) | wp_step)
  show wpAny _ _ (typeLookup (.ref C) _) _ _ _
  refine looks_findIn X hi _ _ _ _ keep ?_
  refine wpAny_holding (wpAny_bind ?_)
  unfold bindSpecial
  refine wpAny_bind (wpAny_typeOf (T := "function") ⟨_, hfI₁, hfc⟩ ?_)
  rw [if_pos (by decide)]
  refine wpAny_pure (wpAny_bind (wpAny_mono (hq _ (h.objs.size + 1) ⟨keep, Heap.get?_none_of_le (Nat.le_succ _), h.objs.size, hget, Heap.get?_none_of_le (Nat.le_refl _), ?_⟩) (fun r s' hr => ?_) fun _ _ x => x))
  · exact Heap.get?_push_of_some _ (Heap.get?_push_at rfl rfl)
  · obtain ⟨rfl, hQ⟩ := hr
    wp_walk
    exact hQ

theorem exc_call (Fn : ExcBaseFacts B newId initId bmN) {K : Frag} (X : K.In h) (hcB : bm.contains (.type B) = true) (hcA : bm.contains (.type "AttributeError") = false) (hcN : bm.contains (.type "NameError") = false) {rest : List Value} {fI : Addr} {oI : Obj} {Q : Value → Shared → Prop}
    (hC : h.get? C = some (excClassObj nm q C N bs bm hdct sn sub ab col dd k0 k1 k2 k3 k5 newId)) (hi : findIn K (.ref C) "__init__" = some (some (.ref fI)))
    (hfI : h.get? fI = some oI) (hfc : oI.cls = .type "function")
    (hq : ∀ h' e, Heap.MadeExcOf h h' e (.ref C) rest →
      wpAny (model prog w) (A.under (.builtin "type.__call__" ⟨.ref C :: rest, []⟩)) (call (.ref fI) (.ref e :: rest)) (fun r s' => r = .none ∧ Q (.ref e) s') E ⟨h', g, d, t, os⟩) (hrest : rest.length ≤ sizeLine) :
    wpAny (model prog w) A (call (.ref C) rest) Q E ⟨h, g, d, t, os⟩ := by
  have f1 := tc_lookup
  have f2 := tc_bind (.ref C)
  have hT : (⟨h, g, d, t, os⟩ : Shared).TypeIs (.ref C) "type" := ⟨_, hC, rfl⟩
  refine wpAny_call (codeAny_of_tree ?_)
  show wpAny _ _ (callAny (.ref C) _) _ _ _
  repeat (any_goals (first | assumption | with_reducible refine wpAny_loadPart_at hC ?_ | wp_step))
  refine ⟨rfl, ?_⟩
  refine codeAny_call_builtin_at (Code.quiet_builtin _ (by decide +kernel)) entry_typeCall (wpAny_check_type_call_sub hC (exc_type_call Fn X hcB hcA hcN hC hi hfI hfc (fun h' e hm => ?_) hrest))
  exact hq h' e hm
end

section
variable {prog : Program} {w : World} {A : Around} {E : Value → Shared → Prop} {h : Heap} {g : Array GenState} {d : Drawn} {t : Nat} {os : OsState}
variable {nm q : Str} {C N x : Addr} {bs bm : List Value} {sn : List Str} {sub : List Value} {ab : Bool} {col : Option Bool} {dd : Option Addr} {k0 k1 k2 k3 k5 : Option Value} {B newId initId sa owner : String}
  {mA : Str → Option Value} {name : Str} {v : Value} {K : Frag}
open Builtin Builtin.ObjectAttr

theorem exc_check_init {bmN' : List Value} (F : ExcBaseFacts B newId initId bmN') (hB : bm.contains (.type B) = true) {hdct : Bool} {M : Model} {e : Addr} {oe : Obj} {rest : List Value} {Q : Unit → Shared → Prop}
    (hC : h.get? C = some (excClassObj nm q C N bs bm hdct sn sub ab col dd k0 k1 k2 k3 k5 newId)) (he : h.get? e = some oe) (hcls : oe.cls = .ref C) (hq : Q () ⟨h, g, d, t, os⟩) :
    wpAny M A (checkBuiltinCall initId ⟨.ref e :: rest, []⟩) Q E ⟨h, g, d, t, os⟩ := by
  have hcB : (Value.ref C :: bm).contains (.type B) = true := by rw [List.contains_cons, hB, Bool.or_true]
  have hshort := F.noStar
  simp only [checkBuiltinCall, F.initKind, F.initSplit, F.initRow]
  repeat (first | (with_reducible refine wpAny_loadPart_at he ?_; rw [hcls]) | with_reducible refine wpAny_loadPart_at hC ?_ | (with_reducible refine wpAny_isSubtype_exc hC ?_; rw [hcB]) | wp_step)
  refine wpAny_onRaise ?_
  rw [show ∀ (a b : String) (n : Nat), Bind.check ⟨.positional, "*", B, .self, [⟨"args", .varPos, false⟩]⟩ a b n (List.map (fun x => x.fst) ({ pos := Value.ref e :: rest } : Args).kw) = pure () from
    fun a b n => check_star_args _ _ _ _ _ _]
  exact wpAny_pure hq

/-- Exception.__init__ of an exception: its arguments are kept -/
theorem exc_init {bmN' : List Value} (F : ExcBaseFacts B newId initId bmN') (hB : bm.contains (.type B) = true) {hdct : Bool} {e t₀ : Addr} {rest : List Value} {Q : Value → Shared → Prop}
    (hC : h.get? C = some (excClassObj nm q C N bs bm hdct sn sub ab col dd k0 k1 k2 k3 k5 newId)) (he : h.get? e = some { cls := .ref C, data := .fields #[.ref t₀, .none, .none, .none, .bool false, .none] }) (hr : rest.length ≤ sizeLine)
    (hq : ∀ h' t₁, (∀ b o, b ≠ e → h.get? b = some o → h'.get? b = some o) → h'.get? e = some { cls := .ref C, data := .fields #[.ref t₁, .none, .none, .none, .bool false, .none] } → Q .none ⟨h', g, d, t, os⟩) :
    wpAny (model prog w) A (call (.builtin initId) (.ref e :: rest)) Q E ⟨h, g, d, t, os⟩ := by
  refine wpAny_call (codeAny_call_builtin F.init.plain F.initEntry (exc_check_init F hB hC he rfl ?_))
  wp_walk
  refine hq _ h.objs.size (fun b o hb hbo => ?_) ?_
  · rw [Heap.get?_update_other _ _ (Ne.symm hb)]
    exact Heap.get?_push_of_some _ hbo
  · rw [Heap.get?_update_self _ (Heap.get?_push_of_some _ he) rfl]
    rfl
/-- a name is stored in an object's own namespace -/
theorem dict_put {dx : Addr} {m : Str → Option Value} {tk : Tok} {ns : List Str} {Q : PySem.Fin → Shared → Prop} (hn : h.Ns1 dx m) (hw : Within m ns) (hl : ns.length ≤ 100)
    (hq : ∀ h' tk', h'.Ns1 dx (fun y => if y = name then some v else m y) → Heap.SameBut dx h h' → Q (.done (.ret .none)) ⟨h', g, d, tk', os⟩) :
    wpAny (model prog w) A (storeInDict dx (.str name tk) name v) Q E ⟨h, g, d, t, os⟩ := by
  unfold storeInDict newKeyGuard
  refine wpAny_bind (wpAny_pure (wpAny_bind (wpAny_nsSet1 hn fun h' hn' hs => ?_)))
  obtain ⟨o, es, ep, ho, hd, hc⟩ := hn'.count (Within.cons name v hw)
  refine wpAny_bind (wpAny_lookBehind ho (by rw [hd]; exact pastItsLine_dict (Nat.le_trans hc (by rw [List.length_cons, sizeLine_eq]; omega))) ?_)
  exact wpAny_pure (hq h' _ hn' hs)

theorem own_dict_some {vs : Array Value} {dx : Addr} {Q : Option Addr → Shared → Prop} (hC : h.get? C = some (excClassObj nm q C N bs bm true sn sub ab col dd k0 k1 k2 k3 k5 newId)) (hx : h.get? x = some { cls := .ref C, dict := some dx, data := .fields vs })
    (hq : Q (some dx) ⟨h, g, d, t, os⟩) : wpAny (model prog w) A (ownDictForStores (.ref x)) Q E ⟨h, g, d, t, os⟩ := by
  unfold ownDictForStores
  wp_walk
  exact hq
theorem own_dict_none {vs : Array Value} {Q : Option Addr → Shared → Prop} (hC : h.get? C = some (excClassObj nm q C N bs bm true sn sub ab col dd k0 k1 k2 k3 k5 newId)) (hx : h.get? x = some { cls := .ref C, data := .fields vs })
    (hq : ∀ h' dx, h.get? dx = none → h'.get? x = some { cls := .ref C, dict := some dx, data := .fields vs } → h'.Ns dx (fun _ => none) → (∀ b o, b ≠ x → h.get? b = some o → h'.get? b = some o) → Q (some dx) ⟨h', g, d, t, os⟩) : wpAny (model prog w) A (ownDictForStores (.ref x)) Q E ⟨h, g, d, t, os⟩ := by
  unfold ownDictForStores
  wp_walk
  have hxs : x ≠ h.objs.size := Nat.ne_of_lt (Heap.lt_size hx)
  refine hq _ h.objs.size (Heap.get?_none_of_le (Nat.le_refl _)) ?_ ?_ fun b o hb e => ?_
  · rw [Heap.get?_update_self _ (Heap.get?_push_of_some _ hx) rfl]
  · refine ⟨_, #[], _, (Heap.get?_update_ne _ _ _ _ hxs.symm).trans (Heap.get?_push_at rfl rfl), rfl, fun e he => absurd he (by simp), fun _ => rfl⟩
  · exact (Heap.get?_update_ne _ _ _ _ hb).trans (Heap.get?_push_of_some _ e)
theorem own_put {tk : Tok} {b : Bool} {Q : PySem.Fin → Shared → Prop} (hq : wpAny (model prog w) A (ownDictForStores (.ref x)) (fun r s' => ∃ dx, r = some dx ∧ wpAny (model prog w) A (storeInDict dx (.str name tk) name v) Q E s') E ⟨h, g, d, t, os⟩) :
    wpAny (model prog w) A (storeInOwnDict (.ref x) (.ref C) (.str name tk) name v b) Q E ⟨h, g, d, t, os⟩ := by
  unfold storeInOwnDict ownStreamTells
  refine wpAny_bind (wpAny_pure ?_)
  refine wpAny_bind (wpAny_mono hq (fun r s' hr => ?_) fun _ _ e => e)
  obtain ⟨dx, rfl, hr⟩ := hr
  exact hr

theorem set_call {o : Obj} {cd : ClassData} {tk : Tok} {R : Result → Shared → Prop} (X : K.In h) (hx : h.get? x = some o) (hc : o.cls = .ref C) (hcl : clsIn K C = some cd) (hm : cd.mro = .ref C :: bm) (hob : mroIn K C (.type "object") = some true)
    (hpass : ∀ self : Value, refuseLoop self "__setattr__" bm = pure ()) (hfa : findIn K (.ref C) name = some none)
    (hq : ∀ b, wpAny (model prog w) A.in1 (storeInOwnDict (.ref x) (.ref C) (.str name tk) name v b) (fun fin s' => match fin with | .done f => R (.ok f) s' | .again c' => c'.quiet = true ∧ codeAny (model prog w) A c' R s') (fun e s' => R (.error e) s') ⟨h, g, d, t, os⟩) :
    codeAny (model prog w) A (.call (.builtin "object.__setattr__") ⟨[.ref x, .str name tk, v], []⟩) R ⟨h, g, d, t, os⟩ := by
  have SF := PySem.F.store_object
  have LT : Looks (model prog w) h (typeOf (.ref x)) (.ref C) := hc ▸ (Looks.ld hx).andThen .now
  have sub : Looks (model prog w) h (isInstance (.ref x) (.type "object")) true := LT.andThen (looks_mroIn X hob)
  have LM : Looks (model prog w) h (mroOf (.ref C)) (.ref C :: bm) := hm ▸ (looks_clsIn X hcl).andThen .now
  refine codeAny_call_builtin SF.slot.plain SF.entry (@check_slot (model prog w) _ _ ⟨h, g, d, t, os⟩ "object.__setattr__" "object" "__setattr__" (.ref x) [.str name tk, v] [] _ SF.kind SF.split sub (SF.args (.ref x) (.str name tk) v) ?_)
  rw [osa_eq, refuse_eq]
  refine wpAny_bind (wpAny_bind (LT.here (wpAny_bind (LM.here ?_))))
  rw [refuseLoop_ref, hpass]
  refine wpAny_pure (wpAny_bind (LT.here (wpAny_bind ((looks_findIn X hfa).here ?_))))
  exact wpAny_bind (wpAny_pure (hq _))

theorem set_exc {o : Obj} {cd : ClassData} {Q : Unit → Shared → Prop} (X : K.In h) (hx : h.get? x = some o) (hc : o.cls = .ref C) (hcl : clsIn K C = some cd) (hm : cd.mro = .ref C :: bm) (hob : mroIn K C (.type "object") = some true)
    (hpass : ∀ self : Value, refuseLoop self "__setattr__" bm = pure ()) (hfa : findIn K (.ref C) name = some none) (hfs : findIn K (.ref C) "__setattr__" = some (some (.builtin "object.__setattr__")))
    (hq : ∀ t' b, wpAny (model prog w) A.in1 (storeInOwnDict (.ref x) (.ref C) (.str name t) name v b) (fun fin s' => fin = .done (.ret .none) ∧ Q () s') E ⟨h, g, d, t', os⟩) :
    wpAny (model prog w) A (setAttr (.ref x) name v) Q E ⟨h, g, d, t, os⟩ := by
  have SF := PySem.F.store_object
  have LT : Looks (model prog w) h (typeOf (.ref x)) (.ref C) := hc ▸ (Looks.ld hx).andThen .now
  have f3 := SF.slot.bind (.ref x)
  unfold setAttr callSpecial? specialOf
  refine wpAny_bind (wpAny_mkText ?_)
  refine wpAny_bind (wpAny_bind (wpAny_bind (LT.here ((looks_findIn X hfs).here ?_))))
  refine wpAny_holding (wpAny_bind (wpAny_of_eq f3 ?_))
  refine wpAny_bind (wpAny_call (set_call (h := h) X hx hc hcl hm hob hpass hfa fun b => ?_))
  refine wpAny_mono (hq (t + 1) b) (fun fin s' hf => ?_) fun e s' he => he
  obtain ⟨rfl, hf⟩ := hf
  exact wpAny_pure (wpAny_pure hf)
end
end Mine
end
section
open PySem PySem.W PyProof.Rows PySem.Calls
set_option maxRecDepth 100000
set_option autoImplicit false
set_option linter.unusedVariables false
namespace Mine

/-- the class's own initialiser sits on the fields -/
noncomputable abbrev excO (dd : Option Addr) (t : Addr) : Obj := { cls := .ref 45, dict := dd, data := .fields #[.ref t, .none, .none, .none, .bool false, .none] }
section
variable {prog : Program} {w : World} {A : Around} {E : Value → Shared → Prop} {P : Params} {h : Heap} {g : Array GenState} {d : Drawn} {t : Nat} {os : OsState}

theorem excep_get {pl : Sem Bool} {Q : Value × List Value → Shared → Prop} (X : (KF P).In h) (hq : Q (.builtin "Exception.__init__", []) ⟨h, g, d, t + 1, os⟩) : wpAny (model prog w) A (getMethod (.type "Exception") "__init__" pl) Q E ⟨h, g, d, t, os⟩ := by
  have ht : typeOf (.type "Exception") = pure (.type "type") := by kernel_rfl
  have hstub : opaqueClassAbove (.type "Exception") = pure none := by
    unfold opaqueClassAbove
    dsimp only
    rw [show Manifest.isStub "Exception" = false from by decide +kernel]
    rfl
  have L0 : Looks (model prog w) h (typeOf (.type "Exception")) (.type "type") := Looks.of_pure ht
  have hg : findIn (KF P) (.type "type") "__getattribute__" = some (some (.builtin "type.__getattribute__")) := type_tga
  have e : findCls (KF P) (.type "Exception") (.type "type") "__init__" = some (.val (.builtin "Exception.__init__")) := by kernel_rfl
  unfold getMethod specialOf
  refine wpAny_bind (wpAny_bind (L0.here ((looks_findIn X hg).here ?_)))
  dsimp only
  rw [if_pos canon_tga]
  refine wpAny_bind (wpAny_mono (Q := fun v => Q (v, [])) (E := E) ?_ (fun _ _ z => wpAny_pure z) fun _ _ z => z)
  have LO : Looks (model prog w) h (opaqueClassAbove (.type "Exception")) none := Looks.of_pure hstub
  refine cls_open (s := ⟨h, g, d, t, os⟩) X LO L0 hg (looks_hook X (r := none) (by rfl)) (by show subIn _ _ _ = _; rfl) e
    (wpAny_pure (by show wpAny _ _ (handedOut (.builtin "Exception.__init__")) _ _ _; rw [handedOut_of (by rfl)]; exact wpAny_pure hq))

theorem fault_pass (self : Value) : refuseLoop self "__setattr__" [.ref 32, .type "Exception", .type "BaseException", .type "object"] = pure () := by
  rw [refuseLoop_ref]
  exact PySem.F.store_Exception.passes self

theorem ldL {env : PySem.Env} {x : Str} {p : Pos} {m : Str → Option Value} {v : Value} {Q : Value → Shared → Prop} (hk : env.scope.kind = .function) (h1 : env.kindOf x = some .local) (hn : h.Ns env.locals m) (hm : m x = some v) (hd : (x == ("__debug__" : Str)) = false) (hq : Q v ⟨h, g, d, t, os⟩) :
    wpAny (model prog w) A (eval (.Name x p) env) Q E ⟨h, g, d, t, os⟩ := wpAny_Name (wpAny_loadName_local hk h1 hn hm hq) hd

theorem fault_hC {h : Heap} (X : (KF P).In h) : h.get? 45 = some (excClassObj (Str.ofString "PatternFault") (Str.ofString "PatternFault") 45 44 [.ref 32] [.ref 32, .type "Exception", .type "BaseException", .type "object"] true [] [] false none none (some (.ref 36)) none (some (.str (Str.ofString "PatternFault") 221)) (some (.str (Str.ofString "PatternFault") 229)) (some (.bool true)) "Exception.__new__") := X _ _ (by rfl)

theorem stmt1_ok {env : PySem.Env} {e t₀ : Addr} {vm : Value} {m mg mb : Str → Option Value} {Q : Flow → Shared → Prop} {p1 p2 p3 p4 p5 p6 : Pos} (X : (KF P).In h) (hline : (p2.endLine == p5.line) = true)
    (hk : env.scope.kind = .function) (h1 : env.kindOf (Str.ofString "self") = some .local) (h2 : env.kindOf (Str.ofString "message") = some .local) (h4 : env.kindOf (Str.ofString "Exception") = some .globalImplicit)
    (hgl : env.globals = mainGlobals) (hbl : env.builtins = builtinsNs) (hn : h.Ns env.locals m) (m1 : m (Str.ofString "self") = some (.ref e)) (m2 : m (Str.ofString "message") = some vm)
    (G : h.Ns mainGlobals mg) (B : h.Ns builtinsNs mb) (hmb : mb (Str.ofString "Exception") = some (.type "Exception")) (he : h.get? e = some (excO none t₀))
    (hq : ∀ h' t₁ t', (∀ b o, b ≠ e → h.get? b = some o → h'.get? b = some o) → h'.get? e = some (excO none t₁) → Q .next ⟨h', g, d, t', os⟩) :
    wpAny (model prog w) A (exec (.Expr (.Call (.Attribute (.Name (Str.ofString "Exception") p1) (Str.ofString "__init__") p2) [.Name (Str.ofString "self") p3, .Name (Str.ofString "message") p4] [] p5) p6) env) Q E ⟨h, g, d, t, os⟩ := by
  have hmg : mg (Str.ofString "Exception") = none := ns_none_of X G (by rfl)
  refine wpAny_Expr ?_ (by unfold interactive; rw [hk]; rfl) (by rfl)
  rw [arm_eval_Call]
  refine wpAny_bind (m := attributeBase (.Name (Str.ofString "Exception") p1) (Str.ofString "__init__") env (eval (.Name (Str.ofString "Exception") p1) env)) ?_
  show wpAny _ _ (eval (.Name (Str.ofString "Exception") p1) env) _ _ _
  refine Name_function_global hk h4 (loadGlobal_builtin (hgl ▸ G) hmg (hbl ▸ B) hmb ?_) (by decide)
  refine wpAny_bind (wpAny_standAt ?_)
  have hpos : ∀ b, methodCallPos b (.Name (Str.ofString "Exception") p1) env p2 p5 = pure p5 := fun b => by unfold methodCallPos; simp [hline]
  unfold methodCall
  refine wpAny_bind (wpAny_holding ?_)
  show wpAny _ _ (getMethod (.type "Exception") (Str.ofString "__init__") _) _ _ _
  refine excep_get X (wpAny_bind (wpAny_of_eq (hpos _) ?_))
  refine Calls.callWith_builtin rfl (Calls.evalArgs_plain (Calls.spliced_cons (ldL hk h1 hn m1 (by decide) (Calls.spliced_cons (ldL hk h2 hn m2 (by decide) (Calls.spliced_nil ?_))))))
  refine exc_init (C := 45) PySem.F.excBase_Exception (by decide) (fault_hC X) he (by show (1 : Nat) ≤ sizeLine; rw [sizeLine_eq]; omega) fun h' t₁ hk' he' => ?_
  exact hq h' t₁ _ hk' he'

theorem set1_ok {env : PySem.Env} {e t₀ : Addr} {v : Value} {nm x : Str} {m : Str → Option Value} {Q : Flow → Shared → Prop} {p1 p2 p3 p4 : Pos} (X : (KF P).In h)
    (hfa : findIn (KF P) (.ref 45) nm = some none)
    (hk : env.scope.kind = .function) (h1 : env.kindOf (Str.ofString "self") = some .local) (h2 : env.kindOf x = some .local) (hx : (x == ("__debug__" : Str)) = false)
    (hn : h.Ns env.locals m) (m1 : m (Str.ofString "self") = some (.ref e)) (m2 : m x = some v) (he : h.get? e = some (excO none t₀))
    (hq : ∀ h' t' dx, h.get? dx = none → h'.get? e = some (excO (some dx) t₀) → h'.Ns1 dx (fun y => if y = nm then some v else none) → (∀ b o, b ≠ e → h.get? b = some o → h'.get? b = some o) → Q .next ⟨h', g, d, t', os⟩) :
    wpAny (model prog w) A (exec (.Assign [.Attribute (.Name (Str.ofString "self") p1) nm p2] (.Name x p3) p4) env) Q E ⟨h, g, d, t, os⟩ := by
  refine plainObj_wpAny_Assign_Attribute (ldL hk h2 hn m2 hx (ldL hk h1 hn m1 (by decide) ?_)) (by rfl)
  refine set_exc (K := KF P) (C := 45) X he rfl (by rfl) (by rfl) (by rfl) fault_pass hfa (by rfl) fun t' b => ?_
  refine own_put (own_dict_none (fault_hC X) he fun h' dx hdx he' hn' hk' => ⟨dx, rfl, ?_⟩)
  refine dict_put (Heap.Ns1.of_empty hn') Within.nil (by decide) fun h'' t'' hn'' hs => ⟨rfl, ?_⟩
  have hne : e ≠ dx := fun z => by rw [z, hdx] at he; cases he
  refine hq h'' t'' dx hdx ((hs.2 e hne).trans he') hn'' fun b o hb e' => (hs.2 b fun z => by rw [z, hdx] at e'; cases e').trans (hk' b o hb e')

theorem set2_ok {env : PySem.Env} {e t₀ dx : Addr} {v : Value} {nm x : Str} {m md : Str → Option Value} {ns : List Str} {Q : Flow → Shared → Prop} {p1 p2 p3 p4 : Pos} (X : (KF P).In h)
    (hfa : findIn (KF P) (.ref 45) nm = some none)
    (hk : env.scope.kind = .function) (h1 : env.kindOf (Str.ofString "self") = some .local) (h2 : env.kindOf x = some .local) (hx : (x == ("__debug__" : Str)) = false)
    (hn : h.Ns env.locals m) (m1 : m (Str.ofString "self") = some (.ref e)) (m2 : m x = some v) (he : h.get? e = some (excO (some dx) t₀)) (hdx : h.Ns1 dx md) (hw : Within md ns) (hl : ns.length ≤ 100)
    (hq : ∀ h' t', h'.Ns1 dx (fun y => if y = nm then some v else md y) → Heap.SameBut dx h h' → Q .next ⟨h', g, d, t', os⟩) :
    wpAny (model prog w) A (exec (.Assign [.Attribute (.Name (Str.ofString "self") p1) nm p2] (.Name x p3) p4) env) Q E ⟨h, g, d, t, os⟩ := by
  refine plainObj_wpAny_Assign_Attribute (ldL hk h2 hn m2 hx (ldL hk h1 hn m1 (by decide) ?_)) (by rfl)
  refine set_exc (K := KF P) (C := 45) X he rfl (by rfl) (by rfl) (by rfl) fault_pass hfa (by rfl) fun t' b => ?_
  refine own_put (own_dict_some (fault_hC X) he ⟨dx, rfl, ?_⟩)
  exact dict_put hdx hw hl fun h'' t'' hn'' hs => ⟨rfl, hq h'' t'' hn'' hs⟩

theorem in_under (a : Value) (l : List Value) : (Code.builtin "type.__call__" ⟨a :: l, []⟩).isFrame = false := by rfl

noncomputable def initFd (P : Params) : FuncData := match (KF P).lookup 29 with
  | some ⟨_, _, .func fd, _⟩ => fd
  | _ => default
theorem init_at (P : Params) : (KF P).lookup 29 = some { cls := .type "function", data := .func (initFd P) } := by rfl
theorem init_bind {h : Heap} {g : Array GenState} {d : Drawn} {t : Nat} {os : OsState} (X : (KF P).In h) {e : Addr} {rest : List Value} {vm vs : Value} (hrest : rest = [vm, vs] ∨ rest = [vm] ∧ vs = .int 0 201) :
    BindsTo ⟨h, g, d, t, os⟩ (initFd P) ⟨.ref e :: rest, []⟩ [(Str.ofString "self", .ref e), (Str.ofString "message", vm), (Str.ofString "spot", vs)] := by
  rcases hrest with rfl | ⟨rfl, rfl⟩
  · exact kp_binds X fun S => by rfl
  · exact kp_binds X fun S => by rfl

/-- LendError.__init__ of a new exception -/
theorem init_call {e t₀ : Addr} {rest : List Value} {vm vs : Value} {mg mb : Str → Option Value} {Q : Value → Shared → Prop} (X : (KF P).In h) (hlim : h.NoLimit) (hroom : A.depth < recursionLimit)
    (G : h.Ns mainGlobals mg) (B : h.Ns builtinsNs mb) (hmb : mb (Str.ofString "Exception") = some (.type "Exception")) (hK : (KF P).lookup e = none)
    (hrest : rest = [vm, vs] ∨ rest = [vm] ∧ vs = .int 0 201) (he : h.get? e = some (excO none t₀))
    (hq : ∀ h' t' dx t₁ mm, h.get? dx = none → h'.get? e = some (excO (some dx) t₁) → h'.Ns dx mm → mm (Str.ofString "message") = some vm → mm (Str.ofString "spot") = some vs → (∀ b o, b ≠ e → h.get? b = some o → h'.get? b = some o) → Q .none ⟨h', g, d, t', os⟩) :
    wpAny (model prog w) A (call (.ref 29) (.ref e :: rest)) Q E ⟨h, g, d, t, os⟩ := by
  refine wpAny_call (codeAny_call_function hroom (X 29 _ (init_at P)) rfl rfl rfl rfl (codeRec_of X (by rfl)) ?_)
  refine init_bind X hrest _ _ _ _ ?_
  refine wpAny_newFunctionEnv (fun q hq => by
    have hq : q ∈ [(Str.ofString "self", NameKind.local), (Str.ofString "message", NameKind.local), (Str.ofString "spot", NameKind.local), (Str.ofString "Exception", NameKind.globalImplicit)] := hq
    simp only [List.mem_cons, List.not_mem_nil, or_false] at hq
    rcases hq with rfl | rfl | rfl | rfl <;> decide) (by intro q hq; simp only [List.mem_cons, List.not_mem_nil, or_false] at hq; rcases hq with rfl | rfl | rfl <;> rfl) (fun h₁ hn₁ hs₁ => ?_) rfl
  have hL : h.get? h.objs.size = none := fresh_size h
  have k₁ : ∀ b o, h.get? b = some o → h₁.get? b = some o := fun b o e' => hs₁.extBut b o (Nat.ne_of_lt (Heap.lt_size e')) (Heap.get?_push_of_some _ e')
  refine ⟨hlim.keeps k₁, codeAny_func ?_⟩
  have X₁ := X.keeps k₁
  have he₁ := k₁ _ _ he
  have neL : e ≠ h.objs.size := fun z => by rw [z, hL] at he; cases he
  have hup : ∀ {h' h'' : Heap}, (KF P).In h' → (∀ b o, b ≠ e → h'.get? b = some o → h''.get? b = some o) → (KF P).In h'' := fun {h' h''} Y k a o ha => k a o (fun z => by rw [z, hK] at ha; cases ha) (Y a o ha)
  have hns : ∀ {h' h'' : Heap} {L : Addr} {m : Str → Option Value}, (∀ b o, b ≠ e → h'.get? b = some o → h''.get? b = some o) → L ≠ e → h'.Ns L m → h''.Ns L m := fun k hl ⟨o, es, ep, ho, r⟩ => ⟨o, es, ep, k _ _ hl ho, r⟩
  have G₁ := G.keeps k₁
  have B₁ := B.keeps k₁
  refine wpAny_execs_cons (stmt1_ok X₁ (by rfl) rfl rfl rfl rfl rfl rfl hn₁ (by rfl) (by rfl) G₁ B₁ hmb he₁ fun h₂ t₁ tk₂ k₂ he₂ => ?_)
  have X₂ := hup X₁ k₂
  have hn₂ := hns k₂ (Ne.symm neL) hn₁
  refine wpAny_execs_cons (set1_ok X₂ (by rfl) rfl rfl rfl (by decide) hn₂ (by rfl) (by rfl) he₂ fun h₃ tk₃ dx hdx he₃ hd₃ k₃ => ?_)
  have X₃ := hup X₂ k₃
  have hn₃ := hns k₃ (Ne.symm neL) hn₂
  refine wpAny_execs_cons (set2_ok X₃ (by rfl) rfl rfl rfl (by decide) hn₃ (by rfl) (by rfl) he₃ hd₃ (Within.cons _ _ Within.nil) (by simp) fun h₄ tk₄ hd₄ hs₄ => ?_)
  refine wpAny_execs_nil ?_
  have hdx0 : h.get? dx = none := by
    cases q : h.get? dx with
    | none => rfl
    | some o =>
      have z1 := k₁ _ _ q
      by_cases hde : dx = e
      · rw [hde, he₂] at hdx; cases hdx
      · rw [k₂ dx o hde z1] at hdx; cases hdx
  have hne : e ≠ dx := fun z => by rw [z, hdx0] at he; cases he
  refine hq h₄ tk₄ dx t₁ _ hdx0 ((hs₄.2 e hne).trans he₃) hd₄.ns (by show (if _ then _ else _) = _; rw [if_neg (by decide), if_pos rfl]) (by show (if _ then _ else _) = _; rw [if_pos rfl]) fun b o hb e' => ?_
  exact (hs₄.2 b fun z => by rw [z, hdx0] at e'; cases e').trans (k₃ b o hb (k₂ b o hb (k₁ b o e')))
end
end Mine
end
section
open PySem PySem.W PyProof.Rows PySem.Calls
set_option maxRecDepth 100000
set_option autoImplicit false
set_option linter.unusedVariables false
namespace Mine
section
variable {prog : Program} {w : World} {A : Around} {E : Value → Shared → Prop} {P : Params} {h : Heap} {g : Array GenState} {d : Drawn} {t : Nat} {os : OsState}

theorem rv_handed {T : Tab} {ρ : List Addr} {h : Heap} {v : Value} {a : V} (r : Rv T ρ h v a) : handedIn v = true := by
  cases r <;> rfl
theorem lookIn_ns {dx : Addr} {m : Str → Option Value} {nm : Str} {v : Value} (hn : h.Ns dx m) (hm : m nm = some v) : ∃ od, h.get? dx = some od ∧ lookIn nm od = some (some v) := by
  obtain ⟨o, es, ep, ho, hd, hp, hf⟩ := hn
  refine ⟨o, ho, ?_⟩
  have := hf nm
  rw [hm] at this
  unfold nsFind findBy at this
  unfold lookIn
  rw [hd]
  dsimp only
  rw [← Array.find?_toList] at this
  obtain ⟨e, he, hv⟩ := Option.map_eq_some_iff.mp this
  rw [he]
  rw [← hv]

theorem typed_hook {x dx : Addr} {mm : Str → Option Value} {nm : Str} {v : Value} {Q : Value → Shared → Prop} {ex : Bool} (X : (KF P).In h) (hx : h.get? x = some (instObj 266 dx)) (hn : h.Ns dx mm) (hm : mm nm = some v) (hv : handedIn v = true)
    (ha : findIn (KF P) (.ref 266) nm = some none) (hq : Q v ⟨h, g, d, t + 1, os⟩) : wpAny (model prog w) A (getAttr (.ref x) nm ex) Q E ⟨h, g, d, t, os⟩ := by
  obtain ⟨od, ho, hl⟩ := lookIn_ns hn hm
  have hga : findIn (KF P) (.ref 266) "__getattribute__" = some (some (.builtin "object.__getattribute__")) := by rfl
  have hh : hasDictIn (KF P) 266 = true := by rfl
  exact get_value (s := ⟨h, g, d, t, os⟩) X ⟨hx, rfl, rfl, ho⟩ hga (findObj_own hh ha rfl hl) hv hq

theorem exc_hook {x dx : Addr} {ox : Obj} {vs : Array Value} {mm : Str → Option Value} {nm : Str} {v : Value} {Q : Value → Shared → Prop} {ex : Bool} (X : (KF P).In h) (hx : h.get? x = some ox) (hc : ox.cls = .ref 45) (hdi : ox.dict = some dx) (hdat : ox.data = .fields vs)
    (hn : h.Ns dx mm) (hm : mm nm = some v) (hv : handedIn v = true) (ha : findIn (KF P) (.ref 45) nm = some none) (hq : Q v ⟨h, g, d, t + 1, os⟩) : wpAny (model prog w) A (getAttr (.ref x) nm ex) Q E ⟨h, g, d, t, os⟩ := by
  obtain ⟨od, ho, hl⟩ := lookIn_ns hn hm
  have hga : findIn (KF P) (.ref 45) "__getattribute__" = some (some (.builtin "BaseException.__getattribute__")) := by rfl
  have hgt : findIn (KF P) (.ref 45) "__getattr__" = some none := by rfl
  have hh : hasDictIn (KF P) 45 = true := by rfl
  have hbe : mroIn (KF P) 45 (.type "BaseException") = some true := by rfl
  have I : InstAt h x ox 45 (some od) := ⟨hx, hc, by unfold notCls; rw [hdat], by rw [hdi]; exact ho⟩
  have LT : Looks (model prog w) h (typeOf (.ref x)) (.ref 45) := I.type
  have LF : Looks (model prog w) h (Builtin.ObjectAttr.find (.ref x) (.ref 45) nm) (.value v) := looks_find X I (findObj_own hh ha rfl hl)
  have LH : Looks (model prog w) h (hookBefore (.ref 45)) none := looks_hook X (by rw [if_pos (by rfl)]; exact hgt)
  have sub : Looks (model prog w) h (isInstance (.ref x) (.type "BaseException")) true := LT.andThen (looks_mroIn X hbe)
  have hne : (Value.builtin "BaseException.__getattribute__" == Value.builtin "object.__getattribute__") = false := by decide +kernel
  unfold getAttr getAttrBy
  refine wpAny_bind (wpAny_mkText (wpAny_holding (wpAny_bind (LT.at (wpAny_bind ((looks_findIn X hga).at ?_))))))
  dsimp only
  rw [hne, Bool.and_false, if_neg (by decide)]
  unfold getAttrByItsOwn
  refine wpAny_bind (LH.at ?_)
  refine wpAny_bind (wpAny_attempt (wpAny_holding ?_))
  unfold callGetattribute
  have hoh : onTheHeap (Value.builtin "BaseException.__getattribute__") = false := rfl
  rw [hoh, Bool.and_false, if_neg (by decide)]
  unfold boundAndCalled
  have ga := PySem.F.attr_Exception.ga
  refine wpAny_bind ?_
  rw [ga.bind (.ref x)]
  refine wpAny_pure ?_
  dsimp only
  refine wpAny_call (codeAny_call_builtin ga.plain PySem.F.entry_bexc_ga (@check_slot (model prog w) _ _ ⟨h, g, d, _, os⟩ "BaseException.__getattribute__" "BaseException" "__getattribute__" (.ref x) [.str nm _] [] _ (by decide +kernel) (by decide +kernel) sub (PySem.F.args_bexc_ga _ _) ?_))
  unfold Builtin.«object.__getattribute__»
  refine wpAny_bind (wpAny_pure (wpAny_bind (wpAny_pure (wpAny_bind (LT.at (wpAny_bind (LF.at ?_)))))))
  refine wpAny_pure ?_
  show wpAny _ _ (handedOut v) _ _ _
  rw [handedOut_of hv]; exact wpAny_pure hq
end
end Mine
end
section
open PySem PySem.W PySem.Calls
set_option maxRecDepth 100000
set_option autoImplicit false
set_option linter.unusedVariables false
namespace Mine
section
variable {prog : Program} {w : World} {A : Around} {E : Value → Shared → Prop} {P : Params} {s : Shared} {env : PySem.Env}

theorem raise_made {x : Sem Value} {Q : Flow → Shared → Prop} (hh : A.handled = none)
    (h : wpAny (model prog w) A x (fun v s₁ => ∃ e dx t, v = .ref e ∧ (KF P).In s₁.heap ∧ s₁.heap.get? e = some (excO (some dx) t) ∧ E (.ref e) s₁) E s) :
    wpAny (model prog w) A (raiseStmt env (some x) none) Q E s := by
  unfold raiseStmt
  refine wpAny_bind (wpAny_mono h (fun v s₁ h₁ => ?_) fun _ _ x => x)
  obtain ⟨e, dx, t, rfl, X, he, hE⟩ := h₁
  obtain ⟨hp, g, d, tk, os⟩ := s₁
  have hC := fault_hC X
  have hcB : (Value.ref 45 :: [.ref 32, .type "Exception", .type "BaseException", .type "object"]).contains (.type "BaseException") = true := by decide
  repeat (first | with_reducible refine wpAny_loadPart_at he ?_ | with_reducible refine wpAny_loadPart_at hC ?_ | (with_reducible refine wpAny_isSubtype_exc hC ?_; rw [hcB]) | wp_step)
  exact wpAny_raiseNew_none hh hE
end

theorem raise_ok {c : Cx} {P : Params} (hT : c.T = T0) (X : (KF P).In c.h₀) (hx : c.xcls = .ref 45) (hmb : c.mb (Str.ofString "Exception") = some (.type "Exception")) (n cc : Nat) (hcc : T0.nm cc = Str.ofString "PatternFault") : RaiseOk c n cc := by
  have hmg : c.mg (c.T.nm cc) = some (.ref 45) := by
    rw [hT, hcc]
    exact mg_of X c.hg (by rfl)
  refine ⟨45, hmg, ?_⟩
  intro A s ρ σ sc env γ σ₁ vs m sp cp pc p args R F O En hcg hvs hany hargs Q E fin
  rw [arm_exec_Raise]
  refine wpAny_bind (wpAny_standAt (raise_made (P := P) (R.handled rfl) (wpAny_bind ?_)))
  show wpAny _ _ (eval (.Call (.Name (c.T.nm cc) cp) args [] pc) env) _ _ _
  refine PyProof.Rows.Call_Name rfl (glob_ok O En hcg hmg ?_)
  unfold callWith
  refine wpAny_bind (wpAny_holding (hargs _ _ fun xs ρ₁ h₁ tk₁ g₁ o₁ r₁ => wpAny_bind (wpAny_standAt ?_)))
  simp only [hany]
  have X₁ : (KF P).In h₁ := X.keeps o₁.base
  have hC := fault_hC X₁
  refine wpAny_bind (wpAny_keeperOf_exc hC ?_)
  have hlen : xs.length ≤ sizeLine := by
    rw [r₁.length]
    rcases hvs with ⟨rfl, _⟩ | rfl <;> (rw [sizeLine_eq]; simp)
  have hxs : ∃ vm vs', (xs = [vm, vs'] ∨ xs = [vm] ∧ vs' = .int 0 201) ∧ Rv c.T ρ₁ h₁ vm m ∧ Rv c.T ρ₁ h₁ vs' sp := by
    rcases hvs with ⟨rfl, rfl⟩ | rfl
    · obtain ⟨x, rfl, rx⟩ := r₁.one
      exact ⟨x, .int 0 201, .inr ⟨rfl, rfl⟩, rx, .int _ _⟩
    · obtain ⟨x, y, rfl, rx, ry⟩ := r₁.two
      exact ⟨x, y, .inl rfl, rx, ry⟩
  obtain ⟨vm, vs', hxs, rm, rs⟩ := hxs
  have hdep : (A.under (.builtin "type.__call__" ⟨.ref 45 :: xs, []⟩)).depth < recursionLimit := by
    have := R.depth
    have hw : (Code.builtin "type.__call__" ⟨.ref 45 :: xs, []⟩).weight ≤ 4 := by
      have : (Code.builtin "type.__call__" ⟨.ref 45 :: xs, []⟩).weight = (Code.builtin "type.__call__" ⟨[.ref 45], []⟩).weight := by rfl
      rw [this]
      decide +kernel
    show A.depth + (Code.builtin "type.__call__" ⟨.ref 45 :: xs, []⟩).weight < recursionLimit
    omega
  refine wpAny_bind (exc_call (K := KF P) (C := 45) PySem.F.excBase_Exception X₁ (by decide) (by decide) (by decide) hC (by rfl) (X₁ 29 _ (init_at P)) rfl (fun h₂ e hm => ?_) (by simpa using hlen))
  obtain ⟨t₀, he, ht₀, _⟩ := hm.there
  have hec : c.h₀.get? e = none := by
    cases q : c.h₀.get? e with
    | none => rfl
    | some o => have := o₁.base e o q; rw [hm.new] at this; cases this
  have hK : (KF P).lookup e = none := by
    cases q : (KF P).lookup e with
    | none => rfl
    | some o => have := X e o q; rw [hec] at this; cases this
  refine init_call (P := P) (X₁.keeps hm.keeps) (c.lim.keeps fun b o z => hm.keeps _ _ (o₁.base b o z)) hdep (o₁.ng.keeps hm.keeps) (o₁.nb.keeps hm.keeps) hmb hK hxs he fun h₃ t' dx t₁ mm hdx he₃ hn₃ mm1 mm2 k₃ => ?_
  have keep : ∀ b o, h₁.get? b = some o → h₃.get? b = some o := fun b o z => k₃ b o (fun q => by rw [q, hm.new] at z; cases z) (hm.keeps b o z)
  refine ⟨rfl, wpAny_bind (wpAny_holding (wpAny_point (wpAny_pure (wpAny_bind (wpAny_standAt (wpAny_pure ⟨e, dx, t₁, rfl, X₁.keeps keep, he₃, ?_⟩))))))⟩
  have gk := Grow.ext (ρ := ρ₁) keep
  refine fin (.ref e) ρ₁ h₃ t' (g₁.trans gk) (o₁.ext keep) ⟨e, excO (some dx) t₁, _, dx, mm, vm, vs', rfl, he₃, hx.symm, rfl, rfl, ⟨push_fresh g₁ hm.new, rfl, push_fresh g₁ (push_fresh (Grow.ext (ρ := ρ₁) hm.keeps) hdx)⟩, hn₃, mm1, mm2, rm.grow gk o₁.st, rs.grow gk o₁.st, rfl⟩
end Mine
end
section
open PySem
set_option maxRecDepth 100000
set_option autoImplicit false
set_option linter.unusedVariables false
namespace Mine
section
variable {C : Cfg} {sc : Sc} {γ γ' γ1 : Env1} {σ σ1 σ2 σ3 : Store} {v w : V} {vs args : List V} {e t a b : IE} {es r : IEs} {p fp px q : Pos} {f x k : Nat} {s : IS} {ss : ISs} {G : Gx} {Ψ : Psi} {sc0 : Sc}
theorem ev_call (h3 : Ψ f args σ1 = some (.ret v, σ2)) (h1 : sc.glb.contains f = true) (h2 : evEs (G.cfg Ψ sc0) sc es γ σ = some (args, σ1)) : evE (G.cfg Ψ sc0) sc (.call f fp es p) γ σ = some (v, σ2) := by
  rw [evE_call, if_pos h1, h2, Option.bind_some]
  show (match Ψ f args σ1 with | some (.ret v, σ') => some (v, σ') | _ => none) = _
  rw [h3]
theorem evs_cons (h1 : evE C sc e γ σ = some (v, σ1)) (h2 : evEs C sc r γ σ1 = some (vs, σ2)) : evEs C sc (.cons e r) γ σ = some (v :: vs, σ2) := by
  rw [evEs_cons, h1, Option.bind_some, h2]
  rfl
theorem evs_call (h3 : Ψ f args σ1 = some (.ret v, σ2)) (h1 : sc.glb.contains f = true) (h2 : evEs (G.cfg Ψ sc0) sc es γ σ = some (args, σ1)) (h4 : evEs (G.cfg Ψ sc0) sc r γ σ2 = some (vs, σ3)) : evEs (G.cfg Ψ sc0) sc (.cons (.call f fp es p) r) γ σ = some (v :: vs, σ3) := evs_cons (ev_call h3 h1 h2) h4
theorem evs_pure (h1 : evE C sc e γ σ = some (v, σ)) (h2 : evEs C sc r γ σ = some (vs, σ2)) : evEs C sc (.cons e r) γ σ = some (v :: vs, σ2) := evs_cons h1 h2
theorem evs_one (h1 : evE C sc e γ σ = some (v, σ1)) : evEs C sc (.cons e .nil) γ σ = some ([v], σ1) := evs_cons h1 rfl
theorem ev_tup (h : evEs C sc es γ σ = some (vs, σ1)) (hl : okL vs = true) : evE C sc (.tup es k p) γ σ = some (.tup vs, σ1) := by
  rw [evE_tup, h, Option.bind_some]
  show mkTup vs σ1 = _
  unfold mkTup
  rw [if_pos hl]
theorem ev_ite {c : Bool} (h : evE C sc t γ σ = some (.bool c, σ)) (h2 : evE C sc (if c then a else b) γ σ = some (v, σ2)) : evE C sc (.ite t a b p) γ σ = some (v, σ2) := by
  rw [evE_ite, h, Option.bind_some]
  cases c <;> exact h2
theorem lv_at (h : γ.lookup x = some v) : evE C sc (.lv x p) γ σ = some (v, σ) := by
  rw [evE_lv, h]
  rfl
theorem str_at {c kk : Nat} (h : Nat.blt c C.n = true) : evE C sc (.str c kk p) γ σ = some (.str c, σ) := by rw [evE_str, if_pos h]
theorem ev_cmp {o : Cm} {c : Bool} (h1 : evE C sc a γ σ = some (v, σ1)) (h2 : evE C sc b γ σ1 = some (w, σ2)) (h3 : cmpV C.inS o v w σ2 = some c) : evE C sc (.cmp o a b p) γ σ = some (.bool c, σ2) := by
  rw [evE_cmp, h1, Option.bind_some, h2, Option.bind_some, h3]
  rfl
theorem ev_bin {o : Op} {z : V} (h1 : evE C sc a γ σ = some (v, σ1)) (h2 : evE C sc b γ σ1 = some (w, σ2)) (h3 : binV o v w σ2 = some (z, σ3)) : evE C sc (.bin o a b p) γ σ = some (z, σ3) := by
  rw [evE_bin, h1, Option.bind_some, h2, Option.bind_some, h3]
theorem ev_bool {c c' : Bool} (h : evE C sc e γ σ = some (.bool c, σ1)) (h2 : c = c') : evE C sc e γ σ = some (.bool c', σ1) := h2 ▸ h
theorem ev_bcall {bi : Bi} (h0 : (sc.glb.contains x && C.bi bi x && (C.mm || safeB bi)) = true) (h1 : evEs C sc es γ σ = some (vs, σ1)) (h2 : bcallV C.ob bi vs σ1 = some (v, σ2)) : evE C sc (.bcall bi x fp es p) γ σ = some (v, σ2) := by
  rw [evE_bcall, if_pos h0, h1, Option.bind_some, h2]
theorem len_ref {ob : Nat → Option (List Int)} {l : List V} (h : σ[k]? = some l) (hl : l.length ≤ 1000000) : bcallV ob .len [.ref k] σ = some (.int l.length, σ) := by
  show (match σ[k]? with | some l => if okL l then some (V.int l.length, σ) else none | none => none) = _
  rw [h]
  show (if okL l then some (V.int l.length, σ) else none) = _
  rw [if_pos (show okL l = true from Nat.ble_eq_true_of_le hl)]
theorem tuple_ref {ob : Nat → Option (List Int)} {l : List V} (h : σ[k]? = some l) (hl : l.length ≤ 1000000) : bcallV ob .tuple [.ref k] σ = some (.tup l, σ) := by
  show (match σ[k]? with | some l => mkTup l σ | none => none) = _
  rw [h]
  show (if okL l then some (V.tup l, σ) else none) = _
  rw [if_pos (show okL l = true from Nat.ble_eq_true_of_le hl)]
theorem evOr_f {b' : IE} {R : Option (V × Store)} (h : evE C sc a γ σ = some (.bool false, σ1)) (h2 : evOr C sc (.cons b' r) γ σ1 = R) : evOr C sc (.cons a (.cons b' r)) γ σ = R := by
  rw [evOr_cons_cons, h, Option.bind_some]
  exact h2
  all_goals intro q; cases q
theorem evOr_one : evOr C sc (.cons a .nil) γ σ = evE C sc a γ σ := rfl
theorem evT_of {c : Bool} (h : evE C sc e γ σ = some (.bool c, σ1)) : evT C sc e γ σ = some (c, σ1) := by
  unfold evT
  rw [h]
  rfl
theorem st_if {c : Bool} {sa sb : ISs} {R : ExR} (h : evT C C.sc t γ σ = some (c, σ1)) (h2 : exSs C (if c then sa else sb) γ σ1 = R) : exS C (.ifS t sa sb p) γ σ = R := by
  rw [exS_ifS, h, Option.bind_some]
  cases c <;> exact h2
theorem ev_iteV {c : Bool} (h : evE C sc t γ σ = some (w, σ)) (ht : truth w = some c) (h2 : evE C sc (if c then a else b) γ σ = some (v, σ2)) : evE C sc (.ite t a b p) γ σ = some (v, σ2) := by
  rw [evE_ite, h, Option.bind_some, ht]
  cases c <;> exact h2
theorem st_asg (h0 : asgOk C.sc x px e = true) (h1 : evE C C.sc e γ σ = some (v, σ1)) (h2 : store C.sc x v γ = some γ') : exS C (.asg x px e p) γ σ = some (.next, γ', σ1) := by
  rw [exS_asg, if_pos h0, h1, Option.bind_some, h2]
  rfl
theorem st_asgT {xs : List (Nat × Pos)} (h0 : (asgTok C.n xs e && C.mm) = true) (h1 : evE C C.sc e γ σ = some (.tup vs, σ1)) (h2 : storeL C.sc xs vs γ = some γ') : exS C (.asgT xs k px e p) γ σ = some (.next, γ', σ1) := by
  rw [exS_asgT, if_pos h0, h1, Option.bind_some]
  show (storeL C.sc xs vs γ).map _ = _
  rw [h2]
  rfl
theorem st_ret (h : evE C C.sc e γ σ = some (v, σ1)) : exS C (.ret e p) γ σ = some (.ret v, γ, σ1) := by
  rw [exS_ret, h]
  rfl
theorem st_expr (h0 : isComp e = false) (h : evE C C.sc e γ σ = some (.none, σ1)) : exS C (.expr e p) γ σ = some (.next, γ, σ1) := by
  rw [exS_expr, if_neg (by rw [h0]; decide), h]
  rfl
theorem st_append {l : List V} {pv ap : Pos} (h1 : evE C C.sc e γ σ = some (v, σ1)) (hx : γ.lookup x = some (.ref k)) (hk : σ1[k]? = some l) (hl : l.length ≤ 1000000) (hp : Nat.beq ap.endLine p.line = true) :
    exS C (.expr (.meth (.lv x pv) .append ap (.cons e .nil) p) q) γ σ = some (.next, γ, σ1.set k (l ++ [v])) := by
  refine st_expr rfl ?_
  have h3 : evEs C C.sc (.cons e .nil) γ σ = some ([v], σ1) := evs_one h1
  rw [evE_meth, if_pos (by rw [hp]; rfl), evE_lv, hx, Option.map_some, Option.bind_some, h3, Option.bind_some]
  show (match σ1[k]? with | some l => if okL l then some (V.none, σ1.set k (l ++ [v])) else none | none => none) = _
  rw [hk]
  show (if okL l then some (V.none, σ1.set k (l ++ [v])) else none) = _
  rw [if_pos (show okL l = true from Nat.ble_eq_true_of_le hl)]
theorem st_append0 {l : List V} {pv ap : Pos} (h1 : evE C C.sc e γ σ = some (v, σ)) (hx : γ.lookup x = some (.ref k)) (hk : σ[k]? = some l) (hl : l.length ≤ 1000000) (hp : Nat.beq ap.endLine p.line = true) :
    exS C (.expr (.meth (.lv x pv) .append ap (.cons e .nil) p) q) γ σ = some (.next, γ, σ.set k (l ++ [v])) := st_append h1 hx hk hl hp
theorem st_appendE {l : List V} {pv ap : Pos} (h1 : evE C C.sc e γ σ = some (v, σ1)) (hx : γ.lookup x = some (.ref k)) (hk : σ1[k]? = some l) (hl : l.length ≤ 1000000) (hp : Nat.beq ap.endLine p.line = true) (hs : σ1.set k (l ++ [v]) = σ2) :
    exS C (.expr (.meth (.lv x pv) .append ap (.cons e .nil) p) q) γ σ = some (.next, γ, σ2) := hs ▸ st_append h1 hx hk hl hp
theorem ev_pop {l : List V} {pv ap : Pos} (hx : γ.lookup x = some (.ref k)) (hk : σ[k]? = some (l ++ [v])) (hl : l.length + 1 ≤ 1000000) (hp : Nat.beq ap.endLine p.line = true) (hs : σ.set k l = σ1) : evE C sc (.meth (.lv x pv) .pop ap .nil p) γ σ = some (v, σ1) := by
  rw [evE_meth, if_pos (by rw [hp]; rfl), evE_lv, hx, Option.map_some, Option.bind_some, evEs_nil, Option.bind_some]
  show (match σ[k]? with | some l => if okL l then match l.getLast? with | some v => some (v, σ.set k l.dropLast) | none => none else none | none => none) = _
  rw [hk]
  show (if okL (l ++ [v]) then match (l ++ [v]).getLast? with | some w => some (w, σ.set k (l ++ [v]).dropLast) | none => none else none) = _
  rw [if_pos (show okL (l ++ [v]) = true from Nat.ble_eq_true_of_le (by rw [List.length_append]; exact hl)), List.getLast?_concat, List.dropLast_concat, hs]
theorem ev_rev {l : List V} {ps : Pos} (h1 : evE C sc e γ σ = some (.ref k, σ1)) (h2 : evE C sc t γ σ1 = some (.int (-1), σ1)) (hk : σ1[k]? = some l) (hl : l.length ≤ 1000000) (hs : σ1 ++ [l.reverse] = σ2) : evE C sc (.rev e t ps p) γ σ = some (.ref σ1.length, σ2) := by
  rw [evE_rev, h1, Option.bind_some, h2, Option.bind_some]
  show (match σ1[k]? with | some l => if okL l then some (V.ref σ1.length, σ1 ++ [l.reverse]) else none | none => none) = _
  rw [hk]
  show (if okL l then some (V.ref σ1.length, σ1 ++ [l.reverse]) else none) = _
  rw [if_pos (show okL l = true from Nat.ble_eq_true_of_le hl), hs]
theorem st_extend {j : Nat} {l l2 : List V} {pv ap : Pos} (h1 : evE C C.sc e γ σ = some (.ref j, σ1)) (hx : γ.lookup x = some (.ref k)) (hk : σ1[k]? = some l) (hj : σ1[j]? = some l2) (hl : l.length + l2.length ≤ 1000000) (hp : Nat.beq ap.endLine p.line = true) (hs : σ1.set k (l ++ l2) = σ2) :
    exS C (.expr (.meth (.lv x pv) .extend ap (.cons e .nil) p) q) γ σ = some (.next, γ, σ2) := by
  refine st_expr rfl ?_
  have h3 : evEs C C.sc (.cons e .nil) γ σ = some ([.ref j], σ1) := evs_one h1
  rw [evE_meth, if_pos (by rw [hp]; rfl), evE_lv, hx, Option.map_some, Option.bind_some, h3, Option.bind_some]
  show (match σ1[k]?, σ1[j]? with | some l, some l2 => if okL (l ++ l2) then some (V.none, σ1.set k (l ++ l2)) else none | _, _ => none) = _
  rw [hk, hj]
  show (if okL (l ++ l2) then some (V.none, σ1.set k (l ++ l2)) else none) = _
  rw [if_pos (show okL (l ++ l2) = true from Nat.ble_eq_true_of_le (by rw [List.length_append]; exact hl)), hs]
theorem st_exprC {pc : Pos} (h3 : Ψ f args σ1 = some (.ret .none, σ2)) (h1 : sc0.glb.contains f = true) (h2 : evEs (G.cfg Ψ sc0) sc0 es γ σ = some (args, σ1)) : exS (G.cfg Ψ sc0) (.exprC f fp es pc p) γ σ = some (.next, γ, σ2) := by
  rw [exS_exprC, if_pos (show (G.cfg Ψ sc0).sc.glb.contains f = true from h1)]
  show (evEs (G.cfg Ψ sc0) sc0 es γ σ).bind _ = _
  rw [h2, Option.bind_some]
  show (match Ψ f args σ1 with | some (.ret .none, σ') => some (Out.next, γ, σ') | some (.exc m s, σ') => some (Out.exc m s, γ, σ') | _ => none) = _
  rw [h3]
theorem st_exprX {pc : Pos} {m sp : V} (h3 : Ψ f args σ1 = some (.exc m sp, σ2)) (h1 : sc0.glb.contains f = true) (h2 : evEs (G.cfg Ψ sc0) sc0 es γ σ = some (args, σ1)) : exS (G.cfg Ψ sc0) (.exprC f fp es pc p) γ σ = some (.exc m sp, γ, σ2) := by
  rw [exS_exprC, if_pos (show (G.cfg Ψ sc0).sc.glb.contains f = true from h1)]
  show (evEs (G.cfg Ψ sc0) sc0 es γ σ).bind _ = _
  rw [h2, Option.bind_some]
  show (match Ψ f args σ1 with | some (.ret .none, σ') => some (Out.next, γ, σ') | some (.exc m s, σ') => some (Out.exc m s, γ, σ') | _ => none) = _
  rw [h3]
theorem ss_next {R : ExR} (h : exS C s γ σ = some (.next, γ1, σ1)) (h2 : exSs C ss γ1 σ1 = R) : exSs C (.cons s ss) γ σ = R := by
  rw [exSs_cons, h, Option.bind_some]
  exact h2
theorem ss_end {o : Out} (h : exS C s γ σ = some (o, γ1, σ1)) (ho : (match o with | .next => false | _ => true) = true) : exSs C (.cons s ss) γ σ = some (o, γ1, σ1) := by
  rw [exSs_cons, h, Option.bind_some]
  cases o <;> first | rfl | cases ho
theorem ss_ret (h : evE C C.sc e γ σ = some (v, σ1)) : exSs C (.cons (.ret e p) ss) γ σ = some (.ret v, γ, σ1) := ss_end (st_ret h) rfl
/-- a row that binds, and what is given back behind it -/
theorem ss_then (h : exS C s γ σ = some (.next, γ', σ1)) (h2 : exSs C ss γ' σ1 = some (.ret v, γ', σ2)) : exSs C (.cons s ss) γ σ = some (.ret v, γ', σ2) := ss_next h h2
end
end Mine
end
section
open PySem
set_option maxRecDepth 100000
set_option autoImplicit false
set_option linter.unusedVariables false
set_option linter.unusedSimpArgs false
namespace Mine
noncomputable def frm (f : Nat) : Bool := memN f [132, 134, 121, 145, 146, 133, 111]
theorem tb_len : tb.length = 161 := by rfl

theorem small_lit {i : Int} (h : i.natAbs < 18446744073709551616) : smallI i = true := by
  unfold smallI
  exact Nat.ble_eq_true_of_le h
theorem fm0 (a : Int) {b : Int} (h : 0 < b) : 0 ≤ Int.fmod a b := by
  rw [Int.fmod_eq_emod_of_nonneg _ (Int.le_of_lt h)]
  exact Int.emod_nonneg _ (by omega)
theorem fm1 (a : Int) {b : Int} (h : 0 < b) : Int.fmod a b < b := by
  rw [Int.fmod_eq_emod_of_nonneg _ (Int.le_of_lt h)]
  exact Int.emod_lt_of_pos _ h
theorem nbeq (a b : Nat) : Nat.beq a b = (a == b) := by
  cases h : Nat.beq a b with
  | true => have := Nat.eq_of_beq_eq_true h; subst this; simp
  | false => have := Nat.ne_of_beq_eq_false h; simp [this]
theorem nble (a b : Nat) : Nat.ble a b = decide (a ≤ b) := by
  cases h : Nat.ble a b with
  | true => have := Nat.le_of_ble_eq_true h; simp [this]
  | false =>
    have : ¬ a ≤ b := fun q => by rw [Nat.ble_eq_true_of_le q] at h; cases h
    simp [this]
theorem nblt (a b : Nat) : Nat.blt a b = decide (a < b) := nble (a + 1) b
section
variable {G : Gx} {Ψ : Psi} {a b top : Int}
theorem take_small (hn : G.bi .int 17 = true) (h1 : 0 < top) (h2 : top < 1073741824) :
    ∃ i a' b', callFn G Ψ f_law_take [.ref 0, .int top] [[.int a, .int b]] = some (.ret (.int i), [[.int a', .int b']]) ∧ 0 ≤ i ∧ i < top := by
  have e0 : ¬ top = 0 := by omega
  have e1 : ¬ 1073741824 ≤ top.natAbs := by omega
  by_cases ha : a > 0
  · refine ⟨Int.fmod a top, Int.fdiv a top, b, ?_, fm0 _ h1, fm1 _ h1⟩
    unfold callFn f_law_take
    simp [exSs_nil, exSs_cons, exS_asg, exS_asgT, exS_asgI, exS_expr, exS_exprC, exS_ifS, exS_forS, exS_whileS, exS_ret, exS_raise, exS_opq, evT, evE_none, evE_bool, evE_int, evE_str, evE_lv, evE_gi, evE_tup, evE_lst, evE_idx, evE_slc, evE_rev, evE_bin, evE_cmp, evE_and, evE_or, evE_not, evE_neg, evE_ite, evE_call, evE_bcall, evE_meth, evE_comp_no, evE_comp_yes, evE_hook, evE_opq, evEs_nil, evEs_cons, idxV, itemsOf, cmpV_eq, cmpV_ne, cmpV_lt, cmpV_ge, cmpV_gt, cmpV_is, cmpV_isnot, cmpV_in, cmpV_inS, truth, bcallV_len, bcallV_list, bcallV_tupT, bcallV_tupL, bcallV_int, bcallV_bool, bcallV_max, bcallV_min, binV_add, binV_addT, binV_addL, binV_sub, binV_mul, binV_fdiv, binV_mod, binV_pow, store, storeL_nil, storeL_cons, asgOk_none, asgOk_bool, asgOk_int, asgOk_str, asgOk_lv, asgOk_gi, asgOk_tup, asgOk_lst, asgOk_idx, asgOk_slc, asgOk_rev, asgOk_bin, asgOk_cmp, asgOk_and, asgOk_or, asgOk_not, asgOk_neg, asgOk_ite, asgOk_call, asgOk_bcall, asgOk_meth, asgOk_hook, asgOk_comp, okL, lim, List.lookup, Gx.cfg, hn, ha, e0, e1, isComp, nbeq, nble, nblt]
  · have b1 := fm0 (b * 39373 + 7) (show (0 : Int) < 2147483647 by decide)
    have b2 := fm1 (b * 39373 + 7) (show (0 : Int) < 2147483647 by decide)
    have s1 : smallI 39373 = true := by rfl
    have s2 : smallI (Int.fmod (b * 39373 + 7) 2147483647) = true := small_lit (by omega)
    refine ⟨Int.fmod (Int.fdiv (Int.fmod (Int.fmod (b * 39373 + 7) 2147483647 * Int.fmod (b * 39373 + 7) 2147483647) 2147483629) 32) top, a, Int.fmod (b * 39373 + 7) 2147483647, ?_, fm0 _ h1, fm1 _ h1⟩
    unfold callFn f_law_take
    simp [exSs_nil, exSs_cons, exS_asg, exS_asgT, exS_asgI, exS_expr, exS_exprC, exS_ifS, exS_forS, exS_whileS, exS_ret, exS_raise, exS_opq, evT, evE_none, evE_bool, evE_int, evE_str, evE_lv, evE_gi, evE_tup, evE_lst, evE_idx, evE_slc, evE_rev, evE_bin, evE_cmp, evE_and, evE_or, evE_not, evE_neg, evE_ite, evE_call, evE_bcall, evE_meth, evE_comp_no, evE_comp_yes, evE_hook, evE_opq, evEs_nil, evEs_cons, idxV, itemsOf, cmpV_eq, cmpV_ne, cmpV_lt, cmpV_ge, cmpV_gt, cmpV_is, cmpV_isnot, cmpV_in, cmpV_inS, truth, bcallV_len, bcallV_list, bcallV_tupT, bcallV_tupL, bcallV_int, bcallV_bool, bcallV_max, bcallV_min, binV_add, binV_addT, binV_addL, binV_sub, binV_mul, binV_fdiv, binV_mod, binV_pow, store, storeL_nil, storeL_cons, asgOk_none, asgOk_bool, asgOk_int, asgOk_str, asgOk_lv, asgOk_gi, asgOk_tup, asgOk_lst, asgOk_idx, asgOk_slc, asgOk_rev, asgOk_bin, asgOk_cmp, asgOk_and, asgOk_or, asgOk_not, asgOk_neg, asgOk_ite, asgOk_call, asgOk_bcall, asgOk_meth, asgOk_hook, asgOk_comp, okL, lim, List.lookup, Gx.cfg, hn, ha, e0, e1, isComp, nbeq, nble, nblt, s1, s2]

theorem frame1 {g : List V → Store → Option (Res × Store)} {s : Nat} {v w : V} {σ : Store} {l l' : List V} (hs : σ[s]? = some l) (hl : noRefL l = true) (hl' : noRefL l' = true) (hv : noRef v = true) (hw : noRef w = true) (hg : g [.ref 0, v] [l] = some (.ret w, [l'])) : frameCall g [.ref s, v] σ = some (.ret w, σ.set s l') := by
  have nv : isRef v = false := by cases v <;> first | rfl | (simp [noRef] at hv)
  have r1 : refsOf [.ref s, v] = [s] := by cases v <;> first | rfl | (simp [noRef] at hv)
  have r2 : renArgs [.ref s, v] 0 = [.ref 0, v] := by cases v <;> first | rfl | (simp [noRef] at hv)
  unfold frameCall
  rw [r1, r2]
  simp [distinct, memN, allL, isRef, hv, gets, hs, hl, hg, frameEnd, nble, hl']
  cases w <;> first | (simp [noRef] at hw; done) | simp [hw, puts]

/-- the functions of the program, with the hooks of a view -/
noncomputable def GH (ob : Nat → Option (List Int)) (H : Nat → Nat → Option V) : Gx := ⟨giF, H, biF, rzF, tb.length, ob⟩
noncomputable def fns1 : List (Nat × Fn) := (k_check_matches, f_check_matches) :: fns
variable {ob : Nat → Option (List Int)} {H : Nat → Nat → Option V}
noncomputable abbrev RF (ob : Nat → Option (List Int)) (H : Nat → Nat → Option V) (k : Nat) : Psi := runF (GH ob H) fns1 frm k
theorem RF_framed {k f : Nat} {fn : Fn} {args : List V} {σ : Store} (h1 : fns1.lookup f = some fn) (h2 : frm f = true) : RF ob H (k + 1) f args σ = frameCall (fun a s => callFn (GH ob H) (RF ob H k) fn a s) args σ := by
  show runF _ _ _ (k + 1) f args σ = _
  rw [runF_succ]
  rw [h1]
  dsimp only
  rw [if_pos h2]
theorem RF_plain {k f : Nat} {fn : Fn} {args : List V} {σ : Store} (h1 : fns1.lookup f = some fn) (h2 : frm f = false) : RF ob H (k + 1) f args σ = callFn (GH ob H) (RF ob H k) fn args σ := by
  show runF _ _ _ (k + 1) f args σ = _
  rw [runF_succ]
  rw [h1]
  dsimp only
  rw [h2, if_neg (by decide)]

theorem take_at {k s : Nat} {σ : Store} (h1 : 0 < top) (h2 : top < 1073741824) (hs : σ[s]? = some [.int a, .int b]) :
    ∃ i a' b', RF ob H (k + 1) 134 [.ref s, .int top] σ = some (.ret (.int i), σ.set s [.int a', .int b']) ∧ 0 ≤ i ∧ i < top := by
  obtain ⟨i, a', b', e, p, q⟩ := take_small (G := GH ob H) (Ψ := RF ob H k) (a := a) (b := b) (by rfl) h1 h2
  refine ⟨i, a', b', ?_, p, q⟩
  rw [RF_framed (fn := f_law_take) (by rfl) (by rfl)]
  exact frame1 hs rfl rfl rfl rfl e
theorem one_at {k s t : Nat} {σ : Store} {items : List V} (hst : s ≠ t) (hs : σ[s]? = some [.int a, .int b]) (ht : σ[t]? = some items) (h1 : 0 < items.length) (h2 : items.length ≤ 1000) :
    ∃ (i : Nat) (v : V) (a' b' : Int), items[i]? = some v ∧ RF ob H (k + 2) 117 [.ref s, .ref t] σ = some (.ret v, σ.set s [.int a', .int b']) := by
  obtain ⟨i, a', b', e, p, q⟩ := take_at (ob := ob) (H := H) (k := k) (top := (items.length : Int)) (by omega) (by omega) hs
  have hi : i.toNat < items.length := by omega
  refine ⟨i.toNat, items[i.toNat], a', b', List.getElem?_eq_getElem hi, ?_⟩
  rw [RF_plain (fn := f_law_one) (by rfl) (by rfl)]
  have ht' : (σ.set s [.int a', .int b'])[t]? = some items := by rw [List.getElem?_set_ne hst]; exact ht
  have e' : RF ob H (k + 1) 134 [.ref s, .int (items.length : Int)] σ = some (.ret (.int i), σ.set s [.int a', .int b']) := e
  have hb : (GH ob H).bi .len 19 = true := by rfl
  have hl : items.length ≤ 1000000 := by omega
  have hi2 : i ≤ 1000000 := by omega
  unfold callFn f_law_one
  simp [exSs_nil, exSs_cons, exS_asg, exS_asgT, exS_asgI, exS_expr, exS_exprC, exS_ifS, exS_forS, exS_whileS, exS_ret, exS_raise, exS_opq, evT, evE_none, evE_bool, evE_int, evE_str, evE_lv, evE_gi, evE_tup, evE_lst, evE_idx, evE_slc, evE_rev, evE_bin, evE_cmp, evE_and, evE_or, evE_not, evE_neg, evE_ite, evE_call, evE_bcall, evE_meth, evE_comp_no, evE_comp_yes, evE_hook, evE_opq, evEs_nil, evEs_cons, idxV, itemsOf, cmpV_eq, cmpV_ne, cmpV_lt, cmpV_ge, cmpV_gt, cmpV_is, cmpV_isnot, cmpV_in, cmpV_inS, truth, bcallV_len, bcallV_list, bcallV_tupT, bcallV_tupL, bcallV_int, bcallV_bool, bcallV_max, bcallV_min, binV_add, binV_addT, binV_addL, binV_sub, binV_mul, binV_fdiv, binV_mod, binV_pow, store, storeL_nil, storeL_cons, asgOk_none, asgOk_bool, asgOk_int, asgOk_str, asgOk_lv, asgOk_gi, asgOk_tup, asgOk_lst, asgOk_idx, asgOk_slc, asgOk_rev, asgOk_bin, asgOk_cmp, asgOk_and, asgOk_or, asgOk_not, asgOk_neg, asgOk_ite, asgOk_call, asgOk_bcall, asgOk_meth, asgOk_hook, asgOk_comp, okL, lim, List.lookup, Gx.cfg, isComp, nbeq, nble, nblt, hb, ht, hl, e', ht', p, hi2, List.getElem?_eq_getElem hi]
end
end Mine
end
section
open PySem PySem.W PyProof.Rows PySem.Calls
set_option maxRecDepth 100000
set_option autoImplicit false
set_option linter.unusedVariables false
namespace Mine

/-- what the program's heap gives -/
structure Base (c : Cx) (P : Params) : Prop where
  hT : c.T = T0
  X : (KF P).In c.h₀
  hx : c.xcls = .ref 45
  mbE : c.mb (Str.ofString "Exception") = some (.type "Exception")
  bi : ∀ b x, biF b x = true → c.mg (T0.nm x) = none ∧ c.mb (T0.nm x) = some (biOf b)
  gi : ∀ x i, giF x = some i → ∃ t, c.mg (T0.nm x) = some (.int i t)

section
variable {c : Cx} {P : Params} {ρ : List Addr} {σ : Store} {h : Heap} {S : List Addr} {A : Around}

theorem Base.at_ (B : Base c P) (hk : ∀ b o, c.h₀.get? b = some o → (mask h S).get? b = some o) : Base (c.at_ h S hk) P := ⟨B.hT, B.X.keeps hk, B.hx, B.mbE, B.bi, B.gi⟩
theorem Base.rz (B : Base c P) (n cc : Nat) (e : rzF cc = true) : RaiseOk c n cc := by
  have : cc = k_PatternFault := Nat.eq_of_beq_eq_true e
  subst this
  exact raise_ok B.hT B.X B.hx B.mbE n k_PatternFault (by rfl)
theorem Base.sndG (B : Base c P) {H : Nat → Nat → Option V} (hook : ∀ y a v, H y a = some v → ∀ (A : Around) (ρ : List Addr) (σ : Store) (s : Shared), Ok c ρ σ s.heap → RunV c A ρ s (getAttr (.ref a) (c.T.nm y) true) v σ) : SndG c (GH c.ob H) :=
  ⟨by rw [B.hT]; rfl, rfl, fun x i e => by rw [B.hT]; exact B.gi x i e, fun b x e => by rw [B.hT]; exact B.bi b x e, B.rz, hook⟩
theorem lookup_memN {α : Type} {x : Nat} {a : α} : ∀ {l : List (Nat × α)}, l.lookup x = some a → (x, a) ∈ l
  | (y, b) :: r, e => by
    rw [List.lookup_cons] at e
    cases hb : x == y with
    | true =>
      rw [hb] at e
      cases e
      rw [beq_iff_eq.mp hb]
      exact .head _
    | false =>
      rw [hb] at e
      exact .tail _ (lookup_memN e)
theorem Base.fns (B : Base c P) : ∀ f fn, fns1.lookup f = some fn → ∃ a o fd, FnAt c f fn a o fd := fun f fn e => by
  rcases List.mem_cons.mp (lookup_memN e) with h | h
  · cases h; exact at_f_check_matches B.hT B.X
  · exact fns_at B.hT B.X (f, fn) h

/-- the frames' addresses -/
noncomputable def frA (A : Around) : List Addr := (A.frames.getD []).filterMap (·.frame)
theorem frA_out (F : FrOk c A h) (O : Ok c ρ σ h) : ∀ a ∈ frA A, c.h₀.get? a = none ∧ a ∉ ρ ∧ ∀ vals n, h.get? a ≠ some { cls := .type "tuple", data := .seq vals n } := fun a ha => by
  obtain ⟨outer, e, H⟩ := F
  unfold frA at ha
  rw [e] at ha
  obtain ⟨⟨m, hm⟩, h0⟩ := frameNs H ha
  exact ⟨h0, Ns.offL O.st hm, Ns.noTup hm⟩
theorem frOk_at (F : FrOk c A h) (hk : ∀ b o, c.h₀.get? b = some o → (mask h (frA A)).get? b = some o) : FrOk (c.at_ h (frA A) hk) A h := by
  obtain ⟨outer, e, H⟩ := F
  refine ⟨outer, e, fun x hx => ?_⟩
  obtain ⟨h1, L, m, h2, h3, h4⟩ := H x hx
  refine ⟨h1, L, m, h2, mask_in ?_, h4⟩
  unfold frA
  rw [e]
  exact List.mem_filterMap.mpr ⟨x, hx, h2⟩
theorem Grow.up {h' : Heap} {ρ' : List Addr} (g : Grow [] h ρ' h') : Grow ρ h ρ h' :=
  ⟨⟨[], by simp, by simp⟩, fun b o e _ => g.keep b o e (by simp), g.dom⟩
theorem rv_free {T : Tab} {ρ ρ' : List Addr} {x : Value} {v : V} (nr : noRef v = true) (r : Rv T ρ h x v) : Rv T ρ' h x v := r.noRef (fun _ _ _ e => e) nr
theorem IsExc.ofAt {hb h' : Heap} {hk : ∀ b o, c.h₀.get? b = some o → (mask h S).get? b = some o} {e : Value} {m sp : V} {fl : Option Value} (x : IsExc (c.at_ h S hk) hb ρ h' e m sp fl) : IsExc c hb ρ h' e m sp fl :=
  match x with
  | .mk a o vs d mm vm vs' h1 h2 h3 h4 h5 h6 h7 h8 h9 h10 h11 h12 => .mk a o vs d mm vm vs' h1 h2 h3 h4 h5 h6 h7 h8 h9 h10 h11 h12
theorem IsExc.free {hb : Heap} {ρ' : List Addr} {e : Value} {m sp : V} {fl : Option Value} (x : IsExc c hb ρ h e m sp fl) (n1 : noRef m = true) (n2 : noRef sp = true) : IsExc c hb ρ' h e m sp fl := by
  obtain ⟨a, o, vs, d, mm, vm, vs', h1, h2, h3, h4, h5, h6, h7, h8, h9, h10, h11, h12⟩ := x
  exact ⟨a, o, vs, d, mm, vm, vs', h1, h2, h3, h4, h5, h6, h7, h8, h9, rv_free n1 h10, rv_free n2 h11, h12⟩

noncomputable def resFree : Res → Bool
  | .ret v => noRef v
  | .exc m s => noRef m && noRef s

/-- a call that sees the lists of now as they stand -/
theorem call_view (B : Base c P) {H : Nat → Nat → Option V} {framed : Nat → Bool} {k f : Nat} {args : List V} {r : Res} {σ'' : Store} (hF : runF (GH c.ob H) fns1 framed k f args [] = some (r, σ'')) (hr : resFree r = true) {a : Addr} (hmg : c.mg (c.T.nm f) = some (.ref a))
    {s : Shared} {xs : List Value} (R : Room c true A k) (F : FrOk c A s.heap) (O : Ok c ρ σ s.heap) (hx : RvL c.T [] s.heap xs args)
    (hook : ∀ c' : Cx, c'.T = c.T → (∀ b o, s.heap.get? b = some o → b ∉ frA A → c'.h₀.get? b = some o) → Base c' P → ∀ y a v, H y a = some v → ∀ (A : Around) (ρ : List Addr) (σ : Store) (s : Shared), Ok c' ρ σ s.heap → RunV c' A ρ s (getAttr (.ref a) (c'.T.nm y) true) v σ) :
    RunR c A ρ s (call (.ref a) xs) r σ := by
  have hS := frA_out F O
  have hk := O.sub fun b hb => (hS b hb).1
  have B' := B.at_ hk
  have S' : SndG (c.at_ s.heap (frA A) hk) (GH c.ob H) := B'.sndG (hook _ rfl (fun b o e hb => (mask_out hb).trans e) B')
  obtain ⟨a', o, fd, h1, h2, h3, HH⟩ := runF_ok (framed := framed) S' B'.fns k f args [] r σ'' hF
  have ha : a' = a := by
    have : c.mg (c.T.nm f) = some (.ref a') := h1
    rw [hmg] at this
    cases this; rfl
  subst ha
  have R' : Room (c.at_ s.heap (frA A) hk) true A k := ⟨R.handled, .inl (R.handled rfl), R.depth, R.units⟩
  have RR := HH A s [] xs R' (frOk_at F hk) (O.enter hk) hx
  cases r with
  | ret v =>
    intro Q E hQ
    exact RR Q E fun x ρ' h' tk g o' rx => hQ x ρ h' tk g.up (O.after hS (keepOut hk o')) (rv_free hr rx)
  | exc m sp =>
    obtain ⟨n1, n2⟩ := Bool.and_eq_true_iff.mp hr
    intro Q E hE
    exact RR Q E fun e ρ' h' tk g o' x => hE e ρ h' tk g.up (O.after hS (keepOut hk o')) (IsExc.free x.ofAt n1 n2)

/-- what a TypedFn bears -/
noncomputable def tH (x : Addr) (pattern tree : V) (y a : Nat) : Option V := if Nat.beq a x then (if Nat.beq y k_params then some (.tup [pattern]) else if Nat.beq y k_body then some tree else none) else none
theorem tH_ok (B : Base c P) {x dx : Addr} {mm : Str → Option Value} {vp vb : Value} {pattern tree : V} (hx : c.h₀.get? x = some (instObj 266 dx)) (hn : c.h₀.Ns dx mm) (m1 : mm (Str.ofString "params") = some vp) (m2 : mm (Str.ofString "body") = some vb)
    (r1 : Rv c.T [] c.h₀ vp (.tup [pattern])) (r2 : Rv c.T [] c.h₀ vb tree) (n1 : noRef pattern = true) (n2 : noRef tree = true) :
    ∀ y a v, tH x pattern tree y a = some v → ∀ (A : Around) (ρ : List Addr) (σ : Store) (s : Shared), Ok c ρ σ s.heap → RunV c A ρ s (getAttr (.ref a) (c.T.nm y) true) v σ := by
  intro y a v e A ρ σ s O Q E hQ
  unfold tH at e
  have up : ∀ {z w}, noRef w = true → Rv c.T [] c.h₀ z w → Rv c.T ρ s.heap z w := fun nr r => r.noRef (fun b vals n e => O.base _ _ e) nr
  split at e
  · rename_i ha
    have ha := Nat.eq_of_beq_eq_true ha
    subst ha
    split at e
    · rename_i hy
      have hy := Nat.eq_of_beq_eq_true hy
      subst hy
      cases e
      rw [B.hT]
      have r := up (w := .tup [pattern]) (by simp [noRef, noRefL, n1]) r1
      exact typed_hook (B.X.keeps O.base) (O.base _ _ hx) (hn.keeps O.base) (nm := T0.nm k_params) m1 (rv_handed r) (by rfl) (hQ vp ρ s.heap (s.toks + 1) (Grow.refl ..) O r)
    · split at e
      · rename_i hy
        have hy := Nat.eq_of_beq_eq_true hy
        subst hy
        cases e
        rw [B.hT]
        have r := up n2 r2
        exact typed_hook (B.X.keeps O.base) (O.base _ _ hx) (hn.keeps O.base) (nm := T0.nm k_body) m2 (rv_handed r) (by rfl) (hQ vb ρ s.heap (s.toks + 1) (Grow.refl ..) O r)
      · cases e
  · cases e

/-- what an exception bears -/
noncomputable def eH (x : Addr) (m sp : V) (y a : Nat) : Option V := if Nat.beq a x then (if Nat.beq y k_message then some m else if Nat.beq y k_spot then some sp else none) else none
theorem eH_ok (B : Base c P) {x dx : Addr} {ox : Obj} {vs : Array Value} {mm : Str → Option Value} {vp vb : Value} {m sp : V} (hx : c.h₀.get? x = some ox) (hc : ox.cls = .ref 45) (hdi : ox.dict = some dx) (hdat : ox.data = .fields vs) (hn : c.h₀.Ns dx mm)
    (m1 : mm (Str.ofString "message") = some vp) (m2 : mm (Str.ofString "spot") = some vb) (r1 : Rv c.T [] c.h₀ vp m) (r2 : Rv c.T [] c.h₀ vb sp) (n1 : noRef m = true) (n2 : noRef sp = true) :
    ∀ y a v, eH x m sp y a = some v → ∀ (A : Around) (ρ : List Addr) (σ : Store) (s : Shared), Ok c ρ σ s.heap → RunV c A ρ s (getAttr (.ref a) (c.T.nm y) true) v σ := by
  intro y a v e A ρ σ s O Q E hQ
  unfold eH at e
  have up : ∀ {z w}, noRef w = true → Rv c.T [] c.h₀ z w → Rv c.T ρ s.heap z w := fun nr r => r.noRef (fun b vals n e => O.base _ _ e) nr
  split at e
  · rename_i ha
    have ha := Nat.eq_of_beq_eq_true ha
    subst ha
    split at e
    · rename_i hy
      have hy := Nat.eq_of_beq_eq_true hy
      subst hy
      cases e
      rw [B.hT]
      have r := up n1 r1
      exact exc_hook (B.X.keeps O.base) (O.base _ _ hx) hc hdi hdat (hn.keeps O.base) (nm := T0.nm k_message) m1 (rv_handed r) (by rfl) (hQ vp ρ s.heap (s.toks + 1) (Grow.refl ..) O r)
    · split at e
      · rename_i hy
        have hy := Nat.eq_of_beq_eq_true hy
        subst hy
        cases e
        rw [B.hT]
        have r := up n2 r2
        exact exc_hook (B.X.keeps O.base) (O.base _ _ hx) hc hdi hdat (hn.keeps O.base) (nm := T0.nm k_spot) m2 (rv_handed r) (by rfl) (hQ vb ρ s.heap (s.toks + 1) (Grow.refl ..) O r)
      · cases e
  · cases e
end
end Mine
end
section
open PySem PySem.W PyProof.Rows PySem.Calls
set_option maxRecDepth 100000
set_option autoImplicit false
set_option linter.unusedVariables false
namespace Mine

noncomputable def told_try : Stmt := .Try [.Expr (.Call (.Name (T0.nm k_check_matches) ⟨368, 8, 368, 21⟩) [.Call (.Name (T0.nm k_TypedFn) ⟨368, 22, 368, 29⟩) (dEs T0 told_args) [] ⟨368, 22, 368, 69⟩, .Constant .none 0 ⟨368, 71, 368, 75⟩] [] ⟨368, 8, 368, 76⟩) ⟨368, 8, 368, 76⟩]
  [.ExceptHandler (some (.Name (T0.nm k_PatternFault) ⟨369, 11, 369, 23⟩)) (some (T0.nm k_fault)) (dSs T0 told_suite) ⟨369, 4, 371, 60⟩] [] [] ⟨367, 4, 371, 60⟩
noncomputable def toldSc : Sc := ⟨[k_tree, k_pattern, k_words], [k_fault], [k_check_matches, k_TypedFn, k_law_bool, k_PatternFault]⟩
noncomputable def told_rest : ISs := .cons (.ret (.none 0 ⟨372, 11, 372, 15⟩) ⟨372, 4, 372, 15⟩) .nil
noncomputable def f_law_told : Fn := ⟨[k_tree, k_pattern], toldSc, .cons (.opq told_try) told_rest⟩

theorem at_f_law_told {c : Cx} {P : Params} (hT : c.T = T0) (X : (KF P).In c.h₀) : ∃ a o fd, FnAt c k_law_told f_law_told a o fd := by
  have e1 : nsIn (KF P) mainGlobals (T0.nm k_law_told) = some (some (.ref ?a)) := by rfl
  have e2 : (KF P).lookup ?a = some ?o := by rfl
  refine ⟨_, _, _, fnAt_of (hT ▸ mg_of X c.hg e1) (X _ _ e2) rfl ?_ rfl rfl rfl (codeRec_of X ?_) rfl rfl rfl ?_ ?_⟩
  · rw [hT]; rfl
  · rfl
  · intro vals h
    rw [hT]
    rcases vals with _ | ⟨x0, _ | ⟨x1, _ | ⟨x2, r⟩⟩⟩ <;> first | (cases h; done) | rfl
  · rw [hT]; rfl

theorem nameGoes_cell {M : Model} {A : Around} {E : Value → Shared → Prop} {s : Shared} {env : PySem.Env} {n : Str} {pos : Pos} {a : Addr} {v : Option Value} {Q : Unit → Shared → Prop} (hk : env.scope.kind = .function) (hl : env.kindOf n = some .cell) (ha : env.cells.lookup n = some a) (hc : s.heap.IsCell a v)
    (h : ∀ h' tk, h'.IsCell a none → Heap.SameBut a s.heap h' → Q () { s with heap := h', toks := tk }) : wpAny M A (do bindName env n .none; unbindBehindTheSuite env n pos) Q E s := by
  refine wpAny_bind (wpAny_bindName (wpAny_storeName_cell hk hl ha hc fun h₁ hc₁ hs₁ => ?_))
  unfold unbindBehindTheSuite
  refine wpAny_onRaise ?_
  unfold unbindName
  refine wpAny_bind (wpAny_point (wpAny_bind ?_))
  unfold deleteName
  simp only [hl]
  refine wpAny_bind (wpAny_cellOf ha (wpAny_bind (wpAny_cellGet hc₁ ?_)))
  simp only [Option.isSome_some, if_true]
  refine wpAny_cellSet hc₁ fun h₂ hc₂ hs₂ => ?_
  exact wpAny_point (h h₂ _ hc₂ (hs₁.trans hs₂))

noncomputable def inS0 (i j : Nat) : Option Bool := some (!(Builtin.Str.occurrences (T0.nm j) (T0.nm i) 0 (T0.nm j).length 1).isEmpty)
noncomputable def suiteC (ob : Nat → Option (List Int)) (H : Nat → Nat → Option V) : Cfg := ⟨fun _ _ _ => none, giF, H, biF, rzF, tb.length, ob, false, inS0, toldSc⟩

section
variable {c : Cx} {P : Params} {n : Nat} {C : Cfg} {A : Around} {ρ ρ₁ : List Addr} {h₁ : Heap} {σ : Store} {s : Shared} {env : PySem.Env} {γ : Env1}

theorem frs_out {sc : Sc} {h : Heap} (O : Ok c ρ σ h) (X : En c sc env γ ρ h) : ∀ a ∈ frs c sc env, a ∉ ρ := fun a ha => by
  rcases List.mem_cons.mp ha with ha | ha
  · obtain ⟨m, hm⟩ := X.ns
    exact ha ▸ Ns.offL O.st hm
  · obtain ⟨x, hx, e⟩ := List.mem_filterMap.mp ha
    obtain ⟨_, _, b, hb, v, hc⟩ := X.cel x hx
    rw [e] at hb; cases hb
    exact Cell.offL O.st hc

/-- the handler's suite, which sees the lists of now as they stand -/
theorem suite_ok (B : Base c P) (f : Fx c n C env A ρ₁ h₁) (hsc : C.sc = toldSc) (O : Ok c ρ σ s.heap) (X : En c C.sc env γ ρ s.heap) (G : Grow ρ₁ h₁ ρ s.heap) {a : Addr} (hγ : γ.lookup k_fault = some (.obj a))
    {hb : Heap} {m sp : V} {fl : Option Value} (x : IsExc c hb ρ s.heap (.ref a) m sp fl) (hbf : ∀ b ∈ frs c C.sc env ++ frA A, ∃ o, hb.get? b = some o) (n1 : noRef m = true) (n2 : noRef sp = true)
    {v : V} (nv : noRef v = true) {γ' : Env1} {σ' : Store} (hs : exSs (suiteC c.ob (eH a m sp)) told_suite [(k_fault, .obj a)] [] = some (.ret v, γ', σ'))
    {Q : Flow → Shared → Prop} {E : Value → Shared → Prop} (fin : ∀ h' tk y, Gb (frs c C.sc env) ρ s.heap ρ h' → Ok c ρ σ h' → En c C.sc env [] ρ h' → Rv c.T ρ h' y v → Q (.ret y) { s with heap := h', toks := tk }) :
    wpAny (model c.prog c.w) (A.mark (some (.ref a))) (execs (dSs c.T told_suite) env) Q E s := by
  obtain ⟨a', o, vs, d, mm, vm, vs', hea, h2, h3, h4, h5, h6, h7, h8, h9, h10, h11, h12⟩ := x
  cases hea
  have F := f.fr G X
  have hS1 : ∀ b ∈ frs c C.sc env, c.h₀.get? b = none ∧ b ∉ ρ ∧ ∀ vals n, s.heap.get? b ≠ some { cls := .type "tuple", data := .seq vals n } := fun b hb' => ⟨f.zero (f.fresh b hb'), frs_out O X b hb', X.noTupFrs (fun _ h => h) b hb'⟩
  have hS : ∀ b ∈ frs c C.sc env ++ frA A, c.h₀.get? b = none ∧ b ∉ ρ ∧ ∀ vals n, s.heap.get? b ≠ some { cls := .type "tuple", data := .seq vals n } := fun b hb' => by
    rcases List.mem_append.mp hb' with h | h
    · exact hS1 b h
    · exact frA_out F O b h
  have hk := O.sub fun b hb' => (hS b hb').1
  have B' := B.at_ hk
  have aS : a ∉ frs c C.sc env ++ frA A := fun q => by obtain ⟨o, e⟩ := hbf a q; rw [h6.1] at e; cases e
  have dS' : d ∉ frs c C.sc env ++ frA A := fun q => by obtain ⟨o, e⟩ := hbf d q; rw [h6.2.2] at e; cases e
  have ga : (mask s.heap (frs c C.sc env ++ frA A)).get? a = some o := (mask_out aS).trans h2
  have gd : (mask s.heap (frs c C.sc env ++ frA A)).Ns d mm := by
    obtain ⟨o', es, ep, ho, r⟩ := h7
    exact ⟨o', es, ep, (mask_out dS').trans ho, r⟩
  have up : ∀ {z w}, noRef w = true → Rv c.T ρ s.heap z w → Rv c.T [] (mask s.heap (frs c C.sc env ++ frA A)) z w := fun nr r => r.noRef (fun b vals n e => (mask_out fun q => (hS b q).2.2 _ _ e).trans e) nr
  have fx : Fx (c.at_ s.heap (frs c C.sc env ++ frA A) hk) n (suiteC c.ob (eH a m sp)) env (A.mark (some (.ref a))) [] (mask s.heap (frs c C.sc env)) := by
    refine ⟨fun b ob e => ?_, ⟨fun _ h => h, fun _ h => h, mask_in (.head _), fun x hx b hb' => mask_in (.tail _ (List.mem_filterMap.mpr ⟨x, hsc ▸ hx, hb'⟩))⟩, ⟨(fun h => by cases h), .inr ⟨a, o, vs, rfl, ga, h5, h6.2.1⟩, f.room.depth, f.room.units⟩, f.frame, ?_, ⟨[], ⟨rfl, .nil, fun k a l h1 => by simp at h1⟩⟩, ?_⟩
    · obtain ⟨e1, e2⟩ := mask_sub (S := frs c C.sc env ++ frA A) e
      exact (mask_out fun q => e2 (List.mem_append_left _ q)).trans e1
    · obtain ⟨outer, e, H⟩ := f.outer
      obtain ⟨σ₁, S₁⟩ := f.st1
      refine ⟨outer, e, fun y hy => ?_⟩
      obtain ⟨k1, L, m, k2, k3, k4⟩ := H y hy
      have hL : L ∈ frA A := by unfold frA; rw [e]; exact List.mem_filterMap.mpr ⟨y, .tail _ hy, k2⟩
      refine ⟨k1, L, m, k2, mask_in (List.mem_append_right _ hL), ?_⟩
      have hn := G.ns S₁ k4
      have hLf : L ∉ frs c C.sc env := fun q => by
        have := f.fresh L q
        obtain ⟨o', _, _, ho, _⟩ := k4
        rw [this] at ho; cases ho
      obtain ⟨o', es, ep, ho, r⟩ := hn
      exact ⟨o', es, ep, (mask_out hLf).trans ho, r⟩
    · refine ⟨by show _ = c.T.n; rw [B.hT]; rfl, rfl, (fun f args σ r σ' h => by cases h), fun i j r e _ _ => ?_, fun x i e => ?_, fun b x e => ?_, B'.rz n, ?_⟩
      · cases e
        show (!(Builtin.Str.occurrences (c.T.nm j) (c.T.nm i) 0 (c.T.nm j).length 1).isEmpty) = _
        rw [B.hT]
      · show ∃ t, c.mg (c.T.nm x) = _
        rw [B.hT]; exact B.gi x i e
      · show c.mg (c.T.nm x) = _ ∧ c.mb (c.T.nm x) = _
        rw [B.hT]; exact B.bi b x e
      · exact eH_ok B' ga (h3.trans B.hx) h4 h5 gd h8 h9 (up n1 h10) (up n2 h11) n1 n2
  refine gss_all fx told_suite _ [] _ _ _ s [] Q E hs (O.enter hk) ?_ ?_ ?_
  · show En _ toldSc _ _ _ _
    rw [← hsc]
    refine ⟨X.kind, X.glo, X.bui, X.loc, X.cel, X.glb, X.apart, X.ns, fun y w e => ?_⟩
    rw [List.lookup_cons] at e
    cases hy : y == k_fault with
    | false => rw [hy] at e; cases e
    | true =>
      rw [hy] at e
      cases e
      rw [beq_iff_eq.mp hy]
      obtain ⟨val, r, k⟩ := X.vars _ _ hγ
      exact ⟨val, rv_free rfl r, k⟩
  · exact .mk0 (fun b ob e _ => (mask_sub (S := frs c C.sc env) e).1) fun b ob e => ⟨ob, (mask_sub (S := frs c C.sc env) e).1⟩
  · intro ρ' h' tk g o' X'
    have X' : En _ toldSc env _ _ _ := X'
    rw [← hsc] at X'
    have g : Gb (frs c toldSc env) [] s.heap ρ' h' := g
    rw [← hsc] at g
    intro y ry
    refine fin h' tk y ⟨⟨[], by simp, by simp⟩, fun b ob e _ hn => g.keep b ob e (by simp) hn, g.dom⟩ (O.after hS (keepOut hk o')) ?_ (rv_free nv ry)
    exact ⟨X'.kind, X'.glo, X'.bui, X'.loc, X'.cel, X'.glb, X'.apart, X'.ns, fun y w e => by cases e⟩

theorem IsExc.move {hb h h' : Heap} {e : Value} {m sp : V} {fl : Option Value} (x : IsExc c hb ρ h e m sp fl) (n1 : noRef m = true) (n2 : noRef sp = true) (k : Kp h h') (kd : ∀ d mm, hb.get? d = none → h.Ns d mm → h'.Ns d mm) : IsExc c hb ρ h' e m sp fl := by
  obtain ⟨a, o, vs, d, mm, vm, vs', h1, h2, h3, h4, h5, h6, h7, h8, h9, h10, h11, h12⟩ := x
  have kt : ∀ b vals n, h.get? b = some { cls := .type "tuple", data := .seq vals n } → h'.get? b = some { cls := .type "tuple", data := .seq vals n } := fun b vals n e => k b _ e (fun es ep q => by cases q) fun v q => by cases q
  have kf : ∀ {b ob} {fs : Array Value}, h.get? b = some ob → ob.data = .fields fs → h'.get? b = some ob := fun {b ob fs} e hd => k b _ e (fun es ep q => by rw [hd] at q; cases q) fun v q => by rw [hd] at q; cases q
  refine ⟨a, o, vs, d, mm, vm, vs', h1, kf h2 h5, h3, h4, h5, h6, kd d mm h6.2.2 h7, h8, h9, h10.noRef kt n1, h11.noRef kt n2, ?_⟩
  cases fl with
  | none => exact h12
  | some f =>
    obtain ⟨tb, ot, ts, k1, k2, k3, k4, k5, k6⟩ := h12
    exact ⟨tb, ot, ts, k1, k2, kf k3 k4, k4, k5, k6⟩

/-- the handler -/
theorem handler_ok (B : Base c P) (f : Fx c n C env A ρ₁ h₁) (hsc : C.sc = toldSc) (O : Ok c ρ σ s.heap) (X : En c C.sc env γ ρ s.heap) {ρh : List Addr} {hb : Heap} (Gh : Grow ρ₁ h₁ ρh hb) (gbh : Gb (frs c C.sc env) ρh hb ρ s.heap)
    {e : Value} {m sp : V} {fv : Value} (x : IsExc c hb ρ s.heap e m sp (some fv)) (hbf : ∀ b ∈ frs c C.sc env ++ frA A, ∃ o, hb.get? b = some o) (n1 : noRef m = true) (n2 : noRef sp = true) (h0 : ∀ b o, c.h₀.get? b = some o → hb.get? b = some o) (hdom : ∀ b o, hb.get? b = some o → ∃ o', s.heap.get? b = some o')
    {v : V} (nv : noRef v = true) (hs : ∀ a, ∃ γ' σ', exSs (suiteC c.ob (eH a m sp)) told_suite [(k_fault, .obj a)] [] = some (.ret v, γ', σ'))
    {p pos : Pos} {Q : Flow → Shared → Prop} {E : Value → Shared → Prop} (fin : ∀ h' tk y, Gb (frs c C.sc env) ρh hb ρ h' → Ok c ρ σ h' → En c C.sc env [] ρ h' → Rv c.T ρ h' y v → Q (.ret y) { s with heap := h', toks := tk }) :
    wpAny (model c.prog c.w) A (handleBy e env [.ExceptHandler (some (.Name (c.T.nm k_PatternFault) p)) (some (c.T.nm k_fault)) (dSs c.T told_suite) pos]) Q E s := by
  have x0 := x
  obtain ⟨a, o, vs, d, mm, vm, vs', rfl, h2, h3, h4, h5, h6, h7, h8, h9, h10, h11, h12⟩ := x0
  have X₀ : (KF P).In s.heap := B.X.keeps O.base
  have hPF : c.mg (c.T.nm k_PatternFault) = some (.ref 45) := by
    rw [B.hT]
    exact mg_of B.X c.hg (by rfl)
  have hcelm : k_fault ∈ C.sc.cel := by rw [hsc]; exact .head _
  obtain ⟨j1, j2, ca, j3, jv, j4⟩ := X.cel k_fault hcelm
  have hcm : ca ∈ frs c C.sc env := .tail _ (List.mem_filterMap.mpr ⟨_, hcelm, j3⟩)
  refine wpAny_handleBy_cons (codeAny_handlers_test ?_) (by intro q; cases q)
  refine glob_ok O X (by rw [hsc]; rfl) hPF ?_
  obtain ⟨hh, gs, dr, t, os⟩ := s
  refine wpAny_excMatches_sub_self (fault_hC X₀) h2 (h3.trans B.hx) (by decide) ?_
  show codeAny _ _ (.handlers (.ref a) [.ExceptHandler none (some _) (_ :: _) pos] env) _ _
  refine codeAny_handlers_suite_as ?_
  refine setFlight_ok (s := ⟨hh, gs, dr, t, os⟩) none x O X h0 hdom fun h₂ x₂ K₂ => ?_
  have gb₂ := K₂.gb _ _ gbh
  have G₂ : Grow ρ₁ h₁ ρ h₂ := f.grow Gh gb₂
  have es : store C.sc k_fault (.obj a) γ = some ((k_fault, .obj a) :: γ.filter fun q => !(Nat.beq q.1 k_fault)) := by
    unfold store
    rw [if_pos (by rw [hsc]; rfl)]
  refine store_ok (s := ⟨h₂, gs, dr, t, os⟩) (sc' := C.sc) K₂.ok K₂.en G₂ f.hb f.own (.obj a) es fun h₃ t₃ O₃ X₃ G₃ kp₃ gb₃ => ?_
  have dn : ∀ d, hb.get? d = none → d ∉ frs c C.sc env := fun d hd q => by
    obtain ⟨o, e⟩ := hbf d (List.mem_append_left _ q)
    rw [hd] at e; cases e
  have x₃ := x₂.move n1 n2 kp₃ fun d mm hd hn => gb₃.ns K₂.ok.st hn (dn d hd)
  obtain ⟨γ', σ', hs⟩ := hs a
  refine suite_ok (s := ⟨h₃, gs, dr, t₃, os⟩) B f hsc O₃ X₃ G₃ (by simp [List.lookup_cons]) x₃ hbf n1 n2 nv hs fun h₄ t₄ y gb₄ O₄ X₄ r₄ => ?_
  obtain ⟨q1, q2, cb, q3, qv, q4⟩ := X₄.cel k_fault hcelm
  rw [j3] at q3
  cases q3
  show wpAny _ A (do bindName env (c.T.nm k_fault) .none; unbindBehindTheSuite env (c.T.nm k_fault) pos) _ _ _
  refine nameGoes_cell (s := ⟨h₄, gs, dr, t₄, os⟩) X₄.kind j2 j3 q4 fun h₅ t₅ hc₅ hs₅ => ?_
  have gb₅ : Gb (frs c C.sc env) ρh hb ρ h₅ := (((gb₂.trans gb₃ (K₂.en.inFrs fun _ h => h)).trans gb₄ (X₃.inFrs fun _ h => h)).trans (Gb.ofExtBut hs₅.extBut hcm) (X₄.inFrs fun _ h => h))
  refine fin h₅ t₅ y gb₅ (O₄.but hs₅ (Cell.offL O₄.st q4) (Cell.noTup q4) (f.zero (f.fresh _ hcm))) ?_ (r₄.noRef (fun b vals n e => (hs₅.2 b fun z => Cell.noTup q4 _ _ (z ▸ e)).trans e) nv)
  refine ⟨X₄.kind, X₄.glo, X₄.bui, X₄.loc, fun y hy => ?_, X₄.glb, X₄.apart, ?_, fun y w e => by cases e⟩
  · obtain ⟨k1, k2, b, k3, v, k4⟩ := X₄.cel y hy
    by_cases hbc : b = ca
    · subst hbc; exact ⟨k1, k2, b, k3, _, hc₅⟩
    · exact ⟨k1, k2, b, k3, v, k4.sameBut hs₅ hbc⟩
  · obtain ⟨m', hm⟩ := X₄.ns
    refine ⟨m', hm.sameBut hs₅ fun z => ?_⟩
    obtain ⟨o', es', ep, ho', hd', _⟩ := hm
    obtain ⟨o'', ho'', hd''⟩ := q4
    rw [z, ho''] at ho'; cases ho'; rw [hd''] at hd'; cases hd'
end
end Mine
end
section
open PySem PySem.W PyProof.Rows PySem.Calls
set_option maxRecDepth 100000
set_option autoImplicit false
set_option linter.unusedVariables false
namespace Mine
section
variable {prog : Program} {w : World} {A : Around} {E : Value → Shared → Prop} {P : Params} {h : Heap} {g : Array GenState} {d : Drawn} {t : Nat} {os : OsState}
open Builtin Builtin.ObjectAttr

theorem typed_hC {h : Heap} (X : (KF P).In h) : h.get? 266 = some (excClassObj (Str.ofString "TypedFn") (Str.ofString "TypedFn") 266 265 [.type "object"] [.type "object"] true [] [] false none none none none (some (.str (Str.ofString "TypedFn") 543)) (some (.str (Str.ofString "TypedFn") 551)) (some (.bool true)) "object.__new__") := X _ _ (by rfl)

theorem own_dict_plain {x dx : Addr} {Q : Option Addr → Shared → Prop} (X : (KF P).In h) (hx : h.get? x = some (instObj 266 dx))
    (hq : Q (some dx) ⟨h, g, d, t, os⟩) : wpAny (model prog w) A (ownDictForStores (.ref x)) Q E ⟨h, g, d, t, os⟩ := by
  have hC := typed_hC X
  unfold ownDictForStores
  wp_walk
  exact hq

theorem setP_ok {env : PySem.Env} {x dx : Addr} {v : Value} {nm y : Str} {m md : Str → Option Value} {ns : List Str} {Q : Flow → Shared → Prop} {p1 p2 p3 p4 : Pos} (X : (KF P).In h)
    (hfa : findIn (KF P) (.ref 266) nm = some none)
    (hk : env.scope.kind = .function) (h1 : env.kindOf (Str.ofString "self") = some .local) (h2 : env.kindOf y = some .local) (hy : (y == ("__debug__" : Str)) = false)
    (hn : h.Ns env.locals m) (m1 : m (Str.ofString "self") = some (.ref x)) (m2 : m y = some v) (hx : h.get? x = some (instObj 266 dx)) (hdx : h.Ns1 dx md) (hw : Within md ns) (hl : ns.length ≤ 100)
    (hq : ∀ h' t', h'.Ns1 dx (fun z => if z = nm then some v else md z) → Heap.SameBut dx h h' → Q .next ⟨h', g, d, t', os⟩) :
    wpAny (model prog w) A (exec (.Assign [.Attribute (.Name (Str.ofString "self") p1) nm p2] (.Name y p3) p4) env) Q E ⟨h, g, d, t, os⟩ := by
  refine plainObj_wpAny_Assign_Attribute (ldL hk h2 hn m2 hy (ldL hk h1 hn m1 (by decide) ?_)) (by rfl)
  refine set_exc (K := KF P) (C := 266) (bm := [.type "object"]) X hx rfl (by rfl) (by rfl) (by rfl) (fun self => PySem.F.store_object.passes self) hfa (by rfl) fun t' b => ?_
  refine own_put (own_dict_plain X hx ⟨dx, rfl, ?_⟩)
  exact dict_put hdx hw hl fun h'' t'' hn'' hs => ⟨rfl, hq h'' t'' hn'' hs⟩

noncomputable def typedFd (P : Params) : FuncData := match (KF P).lookup 263 with
  | some ⟨_, _, .func fd, _⟩ => fd
  | _ => default
theorem typed_at (P : Params) : (KF P).lookup 263 = some { cls := .type "function", data := .func (typedFd P) } := by rfl

set_option maxHeartbeats 4000000 in
/-- a TypedFn is made -/
theorem typed_call {a1 a2 a3 a4 a5 : Value} {Q : Value → Shared → Prop} (X : (KF P).In h) (hlim : h.NoLimit) (hroom : (A.under (.builtin "type.__call__" ⟨[.ref 266, a1, a2, a3, a4, a5], []⟩)).depth < recursionLimit)
    (hq : ∀ h' t' x dx mm, h.get? x = none → h.get? dx = none → h'.get? x = some (instObj 266 dx) → h'.Ns dx mm → mm (Str.ofString "params") = some a3 → mm (Str.ofString "body") = some a5 → (∀ b o, h.get? b = some o → h'.get? b = some o) → Q (.ref x) ⟨h', g, d, t', os⟩) :
    wpAny (model prog w) A (call (.ref 266) [a1, a2, a3, a4, a5]) Q E ⟨h, g, d, t, os⟩ := by
  have hm : makesIn (KF P) 266 = true := by rfl
  have hi : findIn (KF P) (.ref 266) "__init__" = some (some (.ref 263)) := by rfl
  have hf : typeIn (KF P) (.ref 263) = some (.type "function") := by rfl
  refine wpAny_call (make_core (makes_of X hm) (looks_findIn X hi) (fun self => bind_fn X self hf) (.inl rfl) ?_)
  have hdx : h.get? h.objs.size = none := fresh_size h
  have hx0 : h.get? (h.objs.size + 1) = none := Heap.get?_none_of_le (by omega)
  have k1 : ∀ b o, h.get? b = some o → ((h.push emptyDict).push (instObj 266 h.objs.size)).get? b = some o := fun b o e => Heap.get?_push_of_some _ (Heap.get?_push_of_some _ e)
  have hx1 : ((h.push emptyDict).push (instObj 266 h.objs.size)).get? (h.objs.size + 1) = some (instObj 266 h.objs.size) := by heap_get
  have hd1 : ((h.push emptyDict).push (instObj 266 h.objs.size)).Ns h.objs.size (fun _ => none) := (Heap.Ns.new h (.type "dict")).push _
  generalize (h.push emptyDict).push (instObj 266 h.objs.size) = H at *
  generalize hxe : h.objs.size + 1 = x at *
  generalize hde : h.objs.size = dx at *
  have hne : x ≠ dx := by omega
  have X1 := X.keeps k1
  refine codeAny_call_function hroom (X1 263 _ (typed_at P)) rfl rfl rfl rfl (codeRec_of X1 (by rfl)) ?_
  have hbind : BindsTo ⟨H, g, d, t, os⟩ (typedFd P) ⟨[.ref x, a1, a2, a3, a4, a5], []⟩ [(Str.ofString "self", .ref x), (Str.ofString "path", a1), (Str.ofString "rows", a2), (Str.ofString "params", a3), (Str.ofString "result", a4), (Str.ofString "body", a5)] := .of_eq (by rfl)
  refine hbind _ _ _ _ ?_
  refine wpAny_newFunctionEnv (fun q hq => by
    have hq : q ∈ [(Str.ofString "self", NameKind.local), (Str.ofString "path", NameKind.local), (Str.ofString "rows", NameKind.local), (Str.ofString "params", NameKind.local), (Str.ofString "result", NameKind.local), (Str.ofString "body", NameKind.local)] := hq
    simp only [List.mem_cons, List.not_mem_nil, or_false] at hq
    rcases hq with rfl | rfl | rfl | rfl | rfl | rfl <;> decide) (by intro q hq; simp only [List.mem_cons, List.not_mem_nil, or_false] at hq; rcases hq with rfl | rfl | rfl | rfl | rfl | rfl <;> rfl) (fun h₁ hn₁ hs₁ => ?_) rfl
  have hL : H.get? H.objs.size = none := fresh_size H
  have k₁ : ∀ b o, H.get? b = some o → h₁.get? b = some o := fun b o e' => hs₁.extBut b o (Nat.ne_of_lt (Heap.lt_size e')) (Heap.get?_push_of_some _ e')
  refine ⟨(hlim.keeps k1).keeps k₁, codeAny_func ?_⟩
  have X₁ := X1.keeps k₁
  have hx₁ := k₁ _ _ hx1
  have hd₁ := Heap.Ns1.of_empty (hd1.keeps k₁)
  have neL : H.objs.size ≠ dx := fun z => by
    obtain ⟨o, es, ep, ho, _⟩ := hd1
    rw [← z, hL] at ho; cases ho
  have hKd : (KF P).lookup dx = none := by
    cases q : (KF P).lookup dx with
    | none => rfl
    | some o => have := X _ _ q; rw [hdx] at this; cases this
  have hup : ∀ {h' h'' : Heap}, (KF P).In h' → Heap.SameBut dx h' h'' → (KF P).In h'' := fun {h' h''} Y k a o ha => (k.2 a fun z => by rw [z, hKd] at ha; cases ha).trans (Y a o ha)
  refine wpAny_execs_cons (setP_ok X₁ (by rfl) rfl rfl rfl (by decide) hn₁ (by rfl) (by rfl) hx₁ hd₁ Within.nil (by simp) fun h₂ t₂ d₂ s₂ => ?_)
  have X₂ := hup X₁ s₂
  have n₂ := hn₁.sameBut s₂ neL
  have x₂ := (s₂.2 x hne).trans hx₁
  refine wpAny_execs_cons (setP_ok X₂ (by rfl) rfl rfl rfl (by decide) n₂ (by rfl) (by rfl) x₂ d₂ (Within.cons _ _ Within.nil) (by simp) fun h₃ t₃ d₃ s₃ => ?_)
  have X₃ := hup X₂ s₃
  have n₃ := n₂.sameBut s₃ neL
  have x₃ := (s₃.2 x hne).trans x₂
  refine wpAny_execs_cons (setP_ok X₃ (by rfl) rfl rfl rfl (by decide) n₃ (by rfl) (by rfl) x₃ d₃ (Within.cons _ _ (Within.cons _ _ Within.nil)) (by simp) fun h₄ t₄ d₄ s₄ => ?_)
  have X₄ := hup X₃ s₄
  have n₄ := n₃.sameBut s₄ neL
  have x₄ := (s₄.2 x hne).trans x₃
  refine wpAny_execs_cons (setP_ok X₄ (by rfl) rfl rfl rfl (by decide) n₄ (by rfl) (by rfl) x₄ d₄ (Within.cons _ _ (Within.cons _ _ (Within.cons _ _ Within.nil))) (by simp) fun h₅ t₅ d₅ s₅ => ?_)
  have X₅ := hup X₄ s₅
  have n₅ := n₄.sameBut s₅ neL
  have x₅ := (s₅.2 x hne).trans x₄
  refine wpAny_execs_cons (setP_ok X₅ (by rfl) rfl rfl rfl (by decide) n₅ (by rfl) (by rfl) x₅ d₅ (Within.cons _ _ (Within.cons _ _ (Within.cons _ _ (Within.cons _ _ Within.nil)))) (by simp) fun h₆ t₆ d₆ s₆ => ?_)
  refine wpAny_execs_nil ⟨rfl, ?_⟩
  refine hq h₆ t₆ x dx _ hx0 hdx ((s₆.2 x hne).trans x₅) d₆.ns ?_ ?_ fun b o e => ?_
  · show (if _ then _ else if _ then _ else if _ then _ else _) = _
    rw [if_neg (by decide), if_neg (by decide), if_pos rfl]
  · show (if _ then _ else _) = _
    rw [if_pos rfl]
  · have hb : b ≠ dx := fun z => by rw [z, hdx] at e; cases e
    exact (s₆.2 b hb).trans ((s₅.2 b hb).trans ((s₄.2 b hb).trans ((s₃.2 b hb).trans ((s₂.2 b hb).trans (k₁ _ _ (k1 _ _ e))))))
end
end Mine
end
section
open PySem PySem.W PyProof.Rows PySem.Calls
set_option maxRecDepth 100000
set_option autoImplicit false
set_option linter.unusedVariables false
namespace Mine
section
variable {c : Cx} {P : Params}

theorem frA_there {c : Cx} {A : Around} {h : Heap} (F : FrOk c A h) : ∀ a ∈ frA A, ∃ o, h.get? a = some o := fun a ha => by
  obtain ⟨outer, e, H⟩ := F
  unfold frA at ha
  rw [e] at ha
  obtain ⟨⟨m, o, _, _, ho, _⟩, h0⟩ := frameNs H ha
  exact ⟨o, ho⟩

theorem bool_run {G : Gx} {framed : Nat → Bool} (hfr : framed k_law_bool = false) (hn : G.n = tb.length) (n : Nat) (σ : Store) : runF G fns1 framed (n + 1) k_law_bool [] σ = some (.ret (.tup [.str 34]), σ) := by
  have e : fns1.lookup k_law_bool = some f_law_bool := by rfl
  rw [runF_succ]
  rw [e]
  dsimp only
  rw [hfr, if_neg (by decide)]
  obtain ⟨a, b, c, d, m, g⟩ := G
  cases hn
  rfl
theorem args_run {ob : Nat → Option (List Int)} {H : Nat → Nat → Option V} {Ψ : Psi} {tree pattern : V} {σ : Store} (hb : Ψ k_law_bool [] (σ ++ [[]]) = some (.ret (.tup [.str 34]), σ ++ [[]])) :
   evEs ((GH ob H).cfg Ψ toldSc) toldSc told_args [(k_pattern, pattern), (k_tree, tree)] σ = some ([.str 3, .ref σ.length, .tup [pattern], .tup [.str 34], tree], σ ++ [[]]) := by
  have hb : Ψ 131 [] (σ ++ [[]]) = some (.ret (.tup [.str 34]), σ ++ [[]]) := hb
  have hl : tb.length = 161 := by rfl
  unfold told_args
  simp [evEs_nil, evEs_cons, evE_none, evE_bool, evE_int, evE_str, evE_lv, evE_gi, evE_tup, evE_lst, evE_idx, evE_slc, evE_rev, evE_bin, evE_cmp, evE_and, evE_or, evE_not, evE_neg, evE_ite, evE_call, evE_bcall, evE_meth, evE_comp_no, evE_comp_yes, evE_hook, evE_opq, mkLst, mkTup, okL, hb, GH, Gx.cfg, toldSc, hl, lim, List.lookup, k_pattern, k_tree]

/-- _law_told -/
theorem told_ok (B : Base c P) {H0 : Nat → Nat → Option V} (S0 : SndG c (GH c.ob H0)) {framed : Nat → Bool} (hfr : framed k_law_bool = false) {n : Nat} {tree pattern v : V} {σ : Store} (n1 : noRef tree = true) (n2 : noRef pattern = true) (nv : noRef v = true) {r : Res}
    (hcm : ∀ x, ∃ σ'', runF (GH c.ob (tH x pattern tree)) fns1 framed (n + 2) k_check_matches [.obj x, .none] [] = some (r, σ''))
    (hv : (r = .ret .none ∧ v = .none) ∨ ∃ m sp, r = .exc m sp ∧ noRef m = true ∧ noRef sp = true ∧ ∀ a, ∃ γ' σ', exSs (suiteC c.ob (eH a m sp)) told_suite [(k_fault, .obj a)] [] = some (.ret v, γ', σ')) :
    CallOk c (n + 3) k_law_told [tree, pattern] σ (.ret v) (σ ++ [[]]) := by
  obtain ⟨a, o, fd, D⟩ := at_f_law_told B.hT B.X
  obtain ⟨a', o', fd', D'⟩ := at_f_check_matches B.hT B.X
  refine callFn_sem (S0.snd (runF_ok (framed := framed) S0 B.fns (n + 2)) toldSc) D rfl (out := .ret v) (γ' := []) (σ₂ := σ ++ [[]]) ?_ rfl
  intro env A ρ₁ h₁ f s ρ Q E O X G Fn
  have hsc : ((GH c.ob H0).cfg (runF (GH c.ob H0) fns1 framed (n + 2)) f_law_told.sc).sc = toldSc := rfl
  generalize hC : (GH c.ob H0).cfg (runF (GH c.ob H0) fns1 framed (n + 2)) f_law_told.sc = C at *
  have hγ : (f_law_told.params.zip [tree, pattern]).reverse = [(k_pattern, pattern), (k_tree, tree)] := rfl
  rw [hγ] at X
  have X : En c C.sc env [(k_pattern, pattern), (k_tree, tree)] ρ s.heap := by rw [hsc]; exact X
  have hmm : C.mm = true := by rw [← hC]; rfl
  have hargs : evEs C C.sc told_args [(k_pattern, pattern), (k_tree, tree)] σ = some ([.str 3, .ref σ.length, .tup [pattern], .tup [.str 34], tree], σ ++ [[]]) := by
    rw [← hC]
    exact args_run (bool_run hfr rfl _ _)
  have hTF : c.mg (c.T.nm k_TypedFn) = some (.ref 266) := by
    rw [B.hT]
    exact mg_of B.X c.hg (by rfl)
  show wpAny _ _ (execs (told_try :: dSs c.T told_rest) env) Q E s
  refine wpAny_execs_cons ?_
  unfold told_try
  rw [← B.hT]
  refine wpAny_Try_except ?_
  refine wpAny_execs_cons (wpAny_Expr ?_ (inter_ok X) rfl)
  refine Call_Name rfl (glob_ok O X (by rw [hsc]; rfl) D'.mg (callWith_function_kw (o := o') (fd := fd') ?_))
  show wpAny _ _ (evalArgs _ true ((false, eval _ env) :: (false, eval _ env) :: []) []) _ _ _
  refine evalArgs_plain (spliced_cons ?_)
  refine Call_Name rfl (glob_ok O X (by rw [hsc]; rfl) hTF ?_)
  unfold callWith
  have R := f.room
  rw [hmm] at R
  refine wpAny_bind (wpAny_holding (args_of O hargs (ges_all f.snd told_args C.sc env _ σ _ _ A s ρ _ hargs f.room (f.fr G X) O X) fun xs ρ₂ h₂ tk₂ g₂ o₂ r₂ => wpAny_bind (wpAny_standAt ?_)))
  have hany := (evEs_stat c.T env ⟨368, 22, 368, 69⟩ hargs).1
  simp only [hany]
  have X₂ : (KF P).In h₂ := B.X.keeps o₂.base
  refine wpAny_bind (wpAny_keeperOf_exc (typed_hC X₂) ?_)
  obtain ⟨x1, x2, x3, x4, x5, rfl, r3, r5⟩ : ∃ x1 x2 x3 x4 x5, xs = [x1, x2, x3, x4, x5] ∧ Rv c.T ρ₂ h₂ x3 (.tup [pattern]) ∧ Rv c.T ρ₂ h₂ x5 tree := by
    rcases xs with _ | ⟨x1, _ | ⟨x2, _ | ⟨x3, _ | ⟨x4, _ | ⟨x5, _ | ⟨x6, r⟩⟩⟩⟩⟩⟩ <;> simp [RvL] at r₂
    exact ⟨x1, x2, x3, x4, x5, rfl, r₂.2.2.1, r₂.2.2.2.2⟩
  have hdep : (A.under (.builtin "type.__call__" ⟨[.ref 266, x1, x2, x3, x4, x5], []⟩)).depth < recursionLimit := by
    have := R.depth
    have hw : (Code.builtin "type.__call__" ⟨[.ref 266, x1, x2, x3, x4, x5], []⟩).weight ≤ 4 := by
      have : (Code.builtin "type.__call__" ⟨[.ref 266, x1, x2, x3, x4, x5], []⟩).weight = (Code.builtin "type.__call__" ⟨[.ref 45], []⟩).weight := by rfl
      rw [this]
      decide +kernel
    show A.depth + (Code.builtin "type.__call__" ⟨[.ref 266, x1, x2, x3, x4, x5], []⟩).weight < recursionLimit
    omega
  refine wpAny_bind (typed_call (P := P) X₂ (c.lim.keeps o₂.base) hdep fun h₃ t₃ x dx mm hx0 hdx0 hx hn m1 m2 k₃ => ?_)
  refine wpAny_bind (wpAny_holding (wpAny_point (wpAny_pure ?_)))
  have O₃ : Ok c ρ₂ (σ ++ [[]]) h₃ := o₂.ext k₃
  have g₃ : Grow ρ s.heap ρ₂ h₃ := g₂.trans (Grow.ext k₃)
  have G₃ := G.trans g₃
  have X₃ := X.grow O.st g₃
  have F₂ := f.fr (G.trans g₂) (X.grow O.st g₂)
  have F₃ := f.fr G₃ X₃
  refine spliced_cons (wpAny_Constant_none (spliced_nil ⟨⟨O₃.base _ _ D'.at_, D'.data⟩, ?_⟩))
  show wpAny _ _ (call (.ref a') [.ref x, .none]) _ _ _
  have xS : x ∉ frA A := fun q => by obtain ⟨o, e⟩ := frA_there F₂ x q; rw [hx0] at e; cases e
  have dS' : dx ∉ frA A := fun q => by obtain ⟨o, e⟩ := frA_there F₂ dx q; rw [hdx0] at e; cases e
  have hr : resFree r = true := by
    rcases hv with ⟨rfl, _⟩ | ⟨m, sp, rfl, e1, e2, _⟩
    · rfl
    · exact Bool.and_eq_true_iff.mpr ⟨e1, e2⟩
  obtain ⟨σ'', hF⟩ := hcm x
  have RR := call_view (A := A) (ρ := ρ₂) (σ := σ ++ [[]]) B hF hr D'.mg (s := { s with heap := h₃, toks := t₃ }) (xs := [.ref x, .none]) R F₃ O₃ ⟨.obj x, .none, trivial⟩ fun c' hT' hk' B' => by
    have kt : ∀ b vals n, h₂.get? b = some { cls := .type "tuple", data := .seq vals n } → c'.h₀.get? b = some { cls := .type "tuple", data := .seq vals n } := fun b vals n e => hk' b _ (k₃ _ _ e) fun q => (frA_out F₃ O₃ b q).2.2 _ _ (k₃ _ _ e)
    have hn' : c'.h₀.Ns dx mm := by
      obtain ⟨o', es, ep, ho, r⟩ := hn
      exact ⟨o', es, ep, hk' _ _ ho dS', r⟩
    refine tH_ok B' (hk' x _ hx xS) hn' m1 m2 ?_ ?_ n2 n1
    · rw [hT']; exact r3.noRef kt (by simp [noRef, noRefL, n2])
    · rw [hT']; exact r5.noRef kt n1
  have Fn : FinS c C.sc env s ρ (.ret v) [] (σ ++ [[]]) Q E := by rw [hsc]; exact Fn
  rcases hv with ⟨rfl, rfl⟩ | ⟨m, sp, rfl, e1, e2, hs⟩
  · refine RR _ _ fun y ρ₄ h₄ tk₄ g₄ o₄ ry => ?_
    cases ry
    have X₄ := X₃.grow O₃.st g₄
    refine wpAny_execs_nil (wpAny_execs_nil ?_)
    refine gss_all f told_rest _ _ (.ret .none) _ _ _ ρ₄ Q E rfl o₄ X₄ (G₃.trans g₄) ?_
    intro ρ' h' tk gb ok en y ry
    exact (Fn.mid (tk := tk₄) (Gb.ofGrow (g₃.trans g₄)) (X₄.inFrs fun _ h => h)) ρ' h' tk gb ok ⟨en.kind, en.glo, en.bui, en.loc, en.cel, en.glb, en.apart, en.ns, fun y w e => by cases e⟩ y ry
  · refine RR _ _ fun e ρ₄ h₄ tk₄ g₄ o₄ x₄ => ?_
    have X₄ := X₃.grow O₃.st g₄
    obtain ⟨outer, hfr, _⟩ := f.outer
    refine note_ok (s := { s with heap := h₄, toks := tk₄ }) x₄ (.inr (.inl rfl)) (f.fr (G₃.trans g₄) X₄) ⟨outer, hfr⟩ o₄ X₄ O₃.base g₄.dom fun h₅ L hL x₅ K₅ => ?_
    refine setFlight_ok (s := { s with heap := h₅, toks := tk₄ }) none x₅ K₅.ok K₅.en O₃.base K₅.dom fun h₆ x₆ K₆ => ?_
    have hbf : ∀ b ∈ frs c C.sc env ++ frA A, ∃ o, h₃.get? b = some o := fun b hb => by
      rcases List.mem_append.mp hb with h | h
      · exact X₃.inFrs (fun _ h => h) b h
      · exact frA_there F₃ b h
    refine handler_ok (s := { s with heap := h₆, toks := tk₄ }) B f hsc K₆.ok K₆.en G₃ (K₆.gb _ _ (K₅.gb _ _ (Gb.ofGrow g₄))) x₆ hbf e1 e2 O₃.base K₆.dom nv hs fun h₇ t₇ y gb ok en ry => ?_
    exact Fn ρ₄ h₇ t₇ ((Gb.ofGrow g₃).trans gb (X₃.inFrs fun _ h => h)) ok en y ry
end
end Mine
end
section
open PySem
set_option maxRecDepth 100000
set_option autoImplicit false
set_option linter.unusedVariables false
set_option linter.unusedSimpArgs false
namespace Mine
noncomputable abbrev boolV : V := .tup [.str 34]
noncomputable abbrev pYes : V := .tup [.str 60, boolV, .bool true]
noncomputable abbrev pNo : V := .tup [.str 60, boolV, .bool false]
noncomputable abbrev pEach : V := .tup [.str 55, boolV]
section
variable {ob : Nat → Option (List Int)} {H : Nat → Nat → Option V} {spot : Int} {k0 : Nat} {r0 g0 g1 g2 : List V} {b0 b1 b2 : V}
noncomputable abbrev tMatch (spot : Int) (value : V) (arms : List V) : V := .tup [.str 74, boolV, .int spot, value, .tup arms]
noncomputable abbrev vOf (k0 : Nat) (r0 : List V) : V := .tup (.str k0 :: boolV :: r0)
noncomputable abbrev armsRun (ob : Nat → Option (List Int)) (H : Nat → Nat → Option V) (t : V) : Option Res := (callFn (GH ob H) (RF ob H 36) f_check_arms [t, .none] []).map (·.1)
theorem arm0 : armsRun ob H (tMatch spot (vOf k0 r0) [.tup [pYes, .none, b0], .tup [pNo, .none, b1]]) = some (.ret .none) := by kernel_rfl
theorem arm1 : armsRun ob H (tMatch spot (vOf k0 r0) [.tup [pEach, .none, b0]]) = some (.ret .none) := by kernel_rfl
theorem arm2 : armsRun ob H (tMatch spot (vOf k0 r0) [.tup [pNo, .none, b0], .tup [pEach, .none, b1]]) = some (.ret .none) := by kernel_rfl
theorem arm3 : armsRun ob H (tMatch spot (vOf k0 r0) [.tup [pEach, .tup g0, b0], .tup [pEach, .none, b1]]) = some (.ret .none) := by kernel_rfl
theorem arm4 : armsRun ob H (tMatch spot (vOf k0 r0) [.tup [pYes, .tup g0, b0], .tup [pYes, .none, b1], .tup [pNo, .none, b2]]) = some (.ret .none) := by kernel_rfl
theorem arm5 : armsRun ob H (tMatch spot (vOf k0 r0) [.tup [pYes, .none, b0]]) = some (.exc (.str 158) (.int spot)) := by kernel_rfl
theorem arm6 : armsRun ob H (tMatch spot (vOf k0 r0) [.tup [pYes, .tup g0, b0], .tup [pNo, .none, b1]]) = some (.exc (.str 158) (.int spot)) := by kernel_rfl
theorem arm7 : armsRun ob H (tMatch spot (vOf k0 r0) [.tup [pEach, .tup g0, b0]]) = some (.exc (.str 158) (.int spot)) := by kernel_rfl
theorem arm8 : armsRun ob H (tMatch spot (vOf k0 r0) [.tup [pEach, .none, b0], .tup [pNo, .none, b1]]) = some (.exc (.str 157) (.int spot)) := by kernel_rfl
theorem arm9 : armsRun ob H (tMatch spot (vOf k0 r0) [.tup [pYes, .none, b0], .tup [pNo, .none, b1], .tup [pEach, .tup g0, b2]]) = some (.exc (.str 157) (.int spot)) := by kernel_rfl
theorem arm10 : armsRun ob H (tMatch spot (vOf k0 r0) [.tup [pYes, .none, b0], .tup [pYes, .tup g0, b1]]) = some (.exc (.str 158) (.int spot)) := by kernel_rfl

noncomputable abbrev innerRun (ob : Nat → Option (List Int)) (H : Nat → Nat → Option V) (t : V) : Option (List V) := (callFn (GH ob H) (RF ob H 36) f_inner_of [t] []).bind fun q => match q.1 with
  | .ret (.ref k) => q.2[k]?
  | _ => none
variable {v0 p0 p1 p2 : V} {c1 c2 c3 : List V}
theorem in_N : innerRun ob H (tMatch spot v0 [.tup [p0, .none, b0]]) = some [v0, b0] := by kernel_rfl
theorem in_G : innerRun ob H (tMatch spot v0 [.tup [p0, .tup g0, b0]]) = some [v0, .tup g0, b0] := by kernel_rfl
theorem in_NN : innerRun ob H (tMatch spot v0 [.tup [p0, .none, b0], .tup [p1, .none, b1]]) = some [v0, b0, b1] := by kernel_rfl
theorem in_GN : innerRun ob H (tMatch spot v0 [.tup [p0, .tup g0, b0], .tup [p1, .none, b1]]) = some [v0, .tup g0, b0, b1] := by kernel_rfl
theorem in_NG : innerRun ob H (tMatch spot v0 [.tup [p0, .none, b0], .tup [p1, .tup g1, b1]]) = some [v0, b0, .tup g1, b1] := by kernel_rfl
theorem in_GNN : innerRun ob H (tMatch spot v0 [.tup [p0, .tup g0, b0], .tup [p1, .none, b1], .tup [p2, .none, b2]]) = some [v0, .tup g0, b0, b1, b2] := by kernel_rfl
theorem in_NNG : innerRun ob H (tMatch spot v0 [.tup [p0, .none, b0], .tup [p1, .none, b1], .tup [p2, .tup g2, b2]]) = some [v0, b0, b1, .tup g2, b2] := by kernel_rfl
noncomputable abbrev tBlock (spot : Int) (p : V) (c1 c2 : List V) (e3 : V) : V := .tup [.str 58, boolV, .int (spot + 1), .tup [.tup [.str 20, .int spot, p, .tup c1], .tup [.str 9, .int spot, .tup c2]], e3]
theorem in_B3 : innerRun ob H (tBlock spot p0 c1 c2 (.tup c3)) = some [.tup c1, .tup c2, .tup c3] := by kernel_rfl
theorem in_B2 : innerRun ob H (tBlock spot p0 c1 c2 .none) = some [.tup c1, .tup c2] := by kernel_rfl
noncomputable abbrev letsRun (ob : Nat → Option (List Int)) (H : Nat → Nat → Option V) (t : V) : Option Res := (callFn (GH ob H) (RF ob H 36) f_check_lets [t, .none] []).map (·.1)
theorem lets0 {e3 : V} : letsRun ob H (tBlock spot pEach c1 c2 e3) = some (.ret .none) := by kernel_rfl
theorem lets1 {e3 : V} : letsRun ob H (tBlock spot pYes c1 c2 e3) = some (.exc (.str 159) (.int spot)) := by kernel_rfl
theorem in_if3 : innerRun ob H (.tup [.str 10, boolV, .int spot, .tup c1, .tup c2, .tup c3]) = some [.tup c1, .tup c2, .tup c3] := by kernel_rfl
theorem in_if2 : innerRun ob H (.tup [.str 10, boolV, .int spot, .tup c1, .tup c2, .none]) = some [.tup c1, .tup c2] := by kernel_rfl
theorem in_bin : ∀ w ∈ [94, 42, 107], innerRun ob H (.tup [.str w, boolV, .int spot, .str 6, .tup c1, .tup c2]) = some [.tup c1, .tup c2] := by
  intro w hw
  simp only [List.mem_cons, List.not_mem_nil, or_false] at hw
  rcases hw with rfl | rfl | rfl <;> kernel_rfl
theorem in_index : ∀ w ∈ [69, 92], innerRun ob H (.tup [.str w, boolV, .int spot, .tup c1, .tup c2]) = some [.tup c1, .tup c2] := by
  intro w hw
  simp only [List.mem_cons, List.not_mem_nil, or_false] at hw
  rcases hw with rfl | rfl <;> kernel_rfl
theorem in_call : innerRun ob H (.tup [.str 35, boolV, .int spot, .int 0, .tup [.tup c1, .tup c2]]) = some [.tup c1, .tup c2] := by kernel_rfl
theorem in_adt : innerRun ob H (.tup [.str 13, boolV, .int spot, .int 0, .tup [.tup [.int 1, .tup c1], .tup [.int 0, .tup c2]]]) = some [.tup c1, .tup c2] := by kernel_rfl
theorem in_unary : innerRun ob H (.tup [.str 86, boolV, .int spot, .str 1, .tup c1]) = some [.tup c1] := by kernel_rfl
theorem in_borrow : innerRun ob H (.tup [.str 95, boolV, .int spot, .str 23, .tup c1]) = some [.tup c1] := by kernel_rfl
theorem in_loop : innerRun ob H (.tup [.str 45, boolV, .int spot, .int 0, .tup c1]) = some [.tup c1] := by kernel_rfl
theorem in_deref : ∀ w ∈ [61, 64, 16, 36, 81, 103, 101], innerRun ob H (.tup [.str w, boolV, .int spot, .tup c1, .int 2]) = some [.tup c1] := by
  intro w hw
  simp only [List.mem_cons, List.not_mem_nil, or_false] at hw
  rcases hw with rfl | rfl | rfl | rfl | rfl | rfl | rfl <;> kernel_rfl
theorem in_tuple : ∀ w ∈ [84, 57], innerRun ob H (.tup [.str w, boolV, .int spot, .tup [.tup c1, .tup c2]]) = some [.tup c1, .tup c2] := by
  intro w hw
  simp only [List.mem_cons, List.not_mem_nil, or_false] at hw
  rcases hw with rfl | rfl <;> kernel_rfl
theorem in_break : innerRun ob H (.tup [.str 59, boolV, .int spot, .int 0, .tup c1]) = some [.tup c1] := by kernel_rfl
theorem in_break0 : innerRun ob H (.tup [.str 59, boolV, .int spot, .int 0, .none]) = some [] := by kernel_rfl
theorem in_const : innerRun ob H (.tup [.str 60, boolV, .int spot, .bool true]) = some [] := by kernel_rfl
theorem in_local : innerRun ob H (.tup [.str 73, boolV, .int spot, .int 0]) = some [] := by kernel_rfl

theorem refsOf_noRef {l : List V} (h : noRefL l = true) : refsOf l = [] := by
  induction l with
  | nil => rfl
  | cons v r ih =>
    simp only [noRefL, Bool.and_eq_true] at h
    cases v with
    | ref k => simp [noRef] at h
    | _ => exact ih h.2
theorem renArgs_noRef {l : List V} {i : Nat} (h : noRefL l = true) : renArgs l i = l := by
  induction l with
  | nil => rfl
  | cons v r ih =>
    simp only [noRefL, Bool.and_eq_true] at h
    cases v with
    | ref k => simp [noRef] at h
    | _ => simp [renArgs, ih h.2]
theorem allL_noRef {l : List V} (h : noRefL l = true) : allL (fun v => isRef v || noRef v) l = true := by
  induction l with
  | nil => rfl
  | cons v r ih =>
    simp only [noRefL, Bool.and_eq_true] at h
    simp [allL, h.1, ih h.2]
theorem frame0 {g : List V → Store → Option (Res × Store)} {args : List V} {σ σ' : Store} {w : V} (ha : noRefL args = true) (hw : noRef w = true) (hg : g args [] = some (.ret w, σ')) : frameCall g args σ = some (.ret w, σ) := by
  unfold frameCall
  rw [refsOf_noRef ha, renArgs_noRef ha]
  simp [distinct, allL_noRef ha, gets, allL, hg, frameEnd, nble]
  cases w <;> first | (simp [noRef] at hw; done) | simp [hw, puts]
theorem frame0e {g : List V → Store → Option (Res × Store)} {args : List V} {σ σ' : Store} {m s : V} (ha : noRefL args = true) (h1 : noRef m = true) (h2 : noRef s = true) (hg : g args [] = some (.exc m s, σ')) : frameCall g args σ = some (.exc m s, σ) := by
  unfold frameCall
  rw [refsOf_noRef ha, renArgs_noRef ha]
  simp [distinct, allL_noRef ha, gets, allL, hg, frameEnd, nble, h1, h2, puts]
theorem frame0l {g : List V → Store → Option (Res × Store)} {args l : List V} {σ σ' : Store} {k : Nat} (ha : noRefL args = true) (hl : noRefL l = true) (hg : g args [] = some (.ret (.ref k), σ')) (hk : σ'[k]? = some l) : frameCall g args σ = some (.ret (.ref σ.length), σ ++ [l]) := by
  unfold frameCall
  rw [refsOf_noRef ha, renArgs_noRef ha]
  simp [distinct, allL_noRef ha, gets, allL, hg, frameEnd, nble, hl, hk, puts]
end
end Mine
end
section
open PySem
set_option maxRecDepth 100000
set_option autoImplicit false
set_option linter.unusedVariables false
set_option linter.unusedSimpArgs false
namespace Mine
noncomputable def cmT : IE := match f_check_matches.body with
  | .cons _ (.cons _ (.cons (.whileS t _ _) _)) => t
  | _ => .none 0 ⟨0, 0, 0, 0⟩
noncomputable def cmB : ISs := match f_check_matches.body with
  | .cons _ (.cons _ (.cons (.whileS _ b _) _)) => b
  | _ => .nil
section
variable {ob : Nat → Option (List Int)} {H : Nat → Nat → Option V} {P : List V}
/-- what the loop of check_matches does with one tree -/
noncomputable def StepOk (ob : Nat → Option (List Int)) (H : Nat → Nat → Option V) (t : V) (k : Nat) (ch : List V) : Prop :=
  (k = 74 → ∀ σ, RF ob H 37 145 [t, .none] σ = some (.ret .none, σ)) ∧ (k = 58 → ∀ σ, RF ob H 37 146 [t, .none] σ = some (.ret .none, σ)) ∧ ∀ σ, RF ob H 37 121 [t] σ = some (.ret (.ref σ.length), σ ++ [ch])
noncomputable def StepBad (ob : Nat → Option (List Int)) (H : Nat → Nat → Option V) (t : V) (k : Nat) (m sp : V) : Prop :=
  (k = 74 ∧ ∀ σ, RF ob H 37 145 [t, .none] σ = some (.exc m sp, σ)) ∨ (k = 58 ∧ ∀ σ, RF ob H 37 146 [t, .none] σ = some (.exc m sp, σ))
noncomputable abbrev cmC (ob : Nat → Option (List Int)) (H : Nat → Nat → Option V) : Cfg := (GH ob H).cfg (RF ob H 37) f_check_matches.sc

theorem body_ok {t : V} {k : Nat} {r ch L : List V} {g : Store} {γ Γ : Env1} (ht : t = .tup (.str k :: r)) (hs : StepOk ob H t k ch) (h1 : γ.lookup 43 = some (.ref 1)) (h2 : γ.lookup 89 = some .none) (hΓ : (γ.filter fun q => !(Nat.beq q.1 2)) = Γ) (hl : L.length + ch.length + 1 ≤ 1000000) :
    ∃ g', exSs (cmC ob H) cmB γ (P :: (L ++ [t]) :: g) = some (.next, (2, t) :: Γ, P :: (L ++ ch.reverse) :: g') := by
  obtain ⟨s1, s2, s3⟩ := hs
  have l1 : Γ.lookup 43 = some (.ref 1) := by rw [← hΓ, lookup_filter (by decide)]; exact h1
  have l2 : Γ.lookup 89 = some .none := by rw [← hΓ, lookup_filter (by decide)]; exact h2
  subst ht
  refine ⟨g ++ [ch] ++ [ch.reverse], ?_⟩
  have hc : (P :: L :: (g ++ [ch]))[(P :: L :: g).length]? = some ch := by simp
  have hj : (P :: L :: (g ++ [ch] ++ [ch.reverse]))[(P :: L :: (g ++ [ch])).length]? = some ch.reverse := by simp
  have hA : ∀ (j f : Nat) (hj : Nat.blt j 161 = true) (p1 p2 p3 p4 p5 p6 p7 p8 p9 p10 pc : Pos) (hf : f_check_matches.sc.glb.contains f = true) (sb : ISs), (k = j → RF ob H 37 f [.tup (.str k :: r), .none] (P :: L :: g) = some (.ret .none, P :: L :: g)) → exSs (cmC ob H) sb ((2, .tup (.str k :: r)) :: Γ) (P :: L :: g) = some (.next, (2, .tup (.str k :: r)) :: Γ, P :: L :: g) →
      exS (cmC ob H) (.ifS (.cmp .eq (.idx (.lv 2 p1) (.int 0 0 p2) p3) (.str j 0 p4) p5) (.cons (.exprC f p6 (.cons (.lv 2 p7) (.cons (.lv 89 p8) .nil)) pc p9) .nil) sb p10) ((2, .tup (.str k :: r)) :: Γ) (P :: L :: g) = some (.next, (2, .tup (.str k :: r)) :: Γ, P :: L :: g) := by
    intro j f hj p1 p2 p3 p4 p5 p6 p7 p8 p9 p10 pc hf sb h hsb
    have ht : evE (cmC ob H) f_check_matches.sc (.cmp .eq (.idx (.lv 2 p1) (.int 0 0 p2) p3) (.str j 0 p4) p5) ((2, .tup (.str k :: r)) :: Γ) (P :: L :: g) = some (.bool (Nat.beq k j), P :: L :: g) := ev_cmp (w := .str j) (σ2 := P :: L :: g) (v := .str k) (σ1 := P :: L :: g) (by kernel_rfl) (str_at hj) (by kernel_rfl)
    cases hk : Nat.beq k j with
    | false => exact st_if (c := false) (σ1 := P :: L :: g) (evT_of (hk ▸ ht)) hsb
    | true => exact st_if (c := true) (evT_of (hk ▸ ht)) (ss_next (st_exprC (h (Nat.eq_of_beq_eq_true hk)) hf (evs_pure (by kernel_rfl) (evs_one (lv_at l2)))) rfl)
  refine ss_next (γ1 := (2, .tup (.str k :: r)) :: Γ) (σ1 := P :: L :: g) (st_asg (by kernel_rfl) (ev_pop (k := 1) (l := L) h1 (by rfl) (by omega) (by rfl) (by rfl)) (by subst hΓ; rfl)) ?_
  refine ss_next (hA 74 145 (by rfl) _ _ _ _ _ _ _ _ _ _ _ (by rfl) _ (fun e => s1 e _) (ss_next (hA 58 146 (by rfl) _ _ _ _ _ _ _ _ _ _ _ (by rfl) .nil (fun e => s2 e _) rfl) rfl)) ?_
  exact ss_next (st_extend (k := 1) (l := L) (l2 := ch.reverse) (σ1 := P :: L :: (g ++ [ch] ++ [ch.reverse])) (ev_rev (l := ch) (σ1 := P :: L :: (g ++ [ch])) (ev_call (s3 _) (by rfl) (evs_one (by kernel_rfl))) (by kernel_rfl) hc (by omega) (by rfl)) l1 (by rfl) hj (by rw [List.length_reverse]; omega) (by rfl) (by rfl)) rfl

theorem body_bad {t : V} {k : Nat} {r L : List V} {m sp : V} {g : Store} {γ Γ : Env1} (ht : t = .tup (.str k :: r)) (hs : StepBad ob H t k m sp) (h1 : γ.lookup 43 = some (.ref 1)) (h2 : γ.lookup 89 = some .none) (hΓ : (γ.filter fun q => !(Nat.beq q.1 2)) = Γ) (hl : L.length + 1 ≤ 1000000) :
    exSs (cmC ob H) cmB γ (P :: (L ++ [t]) :: g) = some (.exc m sp, (2, t) :: Γ, P :: L :: g) := by
  have l1 : Γ.lookup 43 = some (.ref 1) := by rw [← hΓ, lookup_filter (by decide)]; exact h1
  have l2 : Γ.lookup 89 = some .none := by rw [← hΓ, lookup_filter (by decide)]; exact h2
  subst ht
  have hA : ∀ (j f : Nat) (hj : Nat.blt j 161 = true) (p1 p2 p3 p4 p5 p6 p7 p8 p9 p10 pc : Pos) (hf : f_check_matches.sc.glb.contains f = true) (sb : ISs), k = j → RF ob H 37 f [.tup (.str k :: r), .none] (P :: L :: g) = some (.exc m sp, P :: L :: g) →
      exS (cmC ob H) (.ifS (.cmp .eq (.idx (.lv 2 p1) (.int 0 0 p2) p3) (.str j 0 p4) p5) (.cons (.exprC f p6 (.cons (.lv 2 p7) (.cons (.lv 89 p8) .nil)) pc p9) .nil) sb p10) ((2, .tup (.str k :: r)) :: Γ) (P :: L :: g) = some (.exc m sp, (2, .tup (.str k :: r)) :: Γ, P :: L :: g) := by
    intro j f hj p1 p2 p3 p4 p5 p6 p7 p8 p9 p10 pc hf sb hk h
    have ht : evE (cmC ob H) f_check_matches.sc (.cmp .eq (.idx (.lv 2 p1) (.int 0 0 p2) p3) (.str j 0 p4) p5) ((2, .tup (.str k :: r)) :: Γ) (P :: L :: g) = some (.bool (Nat.beq k j), P :: L :: g) := ev_cmp (w := .str j) (σ2 := P :: L :: g) (v := .str k) (σ1 := P :: L :: g) (by kernel_rfl) (str_at hj) (by kernel_rfl)
    subst hk
    exact st_if (c := true) (evT_of (ev_bool ht (Nat.beq_refl k))) (ss_end (st_exprX h hf (evs_pure (by kernel_rfl) (evs_one (lv_at l2)))) rfl)
  refine ss_next (γ1 := (2, .tup (.str k :: r)) :: Γ) (σ1 := P :: L :: g) (st_asg (by kernel_rfl) (ev_pop (k := 1) (l := L) h1 (by rfl) hl (by rfl) (by rfl)) (by subst hΓ; rfl)) ?_
  rcases hs with ⟨k1, s1⟩ | ⟨k2, s2⟩
  · exact ss_end (hA 74 145 (by rfl) _ _ _ _ _ _ _ _ _ _ _ (by rfl) _ k1 (s1 _)) rfl
  · subst k2
    exact ss_end (st_if (c := false) (σ1 := P :: L :: g) (evT_of (by kernel_rfl)) (ss_end (hA 58 146 (by rfl) _ _ _ _ _ _ _ _ _ _ _ (by rfl) .nil rfl (s2 _)) rfl)) rfl
theorem test_ok {L : List V} {g : Store} {γ : Env1} (h1 : γ.lookup 43 = some (.ref 1)) : evT (cmC ob H) f_check_matches.sc cmT γ (P :: L :: g) = some (!L.isEmpty, P :: L :: (g ++ [[]])) := by
  have : evE (cmC ob H) f_check_matches.sc cmT γ (P :: L :: g) = some (.bool (!L.isEmpty), P :: L :: (g ++ [[]])) := ev_cmp (v := .ref 1) (w := .ref (P :: L :: g).length) (σ1 := P :: L :: g) (σ2 := P :: L :: (g ++ [[]])) (lv_at h1) (by kernel_rfl) (by simp [cmpV_eq, cmpV_ne, cmpV_lt, cmpV_ge, cmpV_gt, cmpV_is, cmpV_isnot, cmpV_in, cmpV_inS, eqV_tup, eqV_ref, eqV_nt, eqV_tn, eqV_nn, eqV_int, eqV_bool, eqV_str])
  exact evT_of this
end

noncomputable abbrev rowV (spot : Int) (w : Nat) : V := .tup [.int spot, .str w]
/-- the word of a message -/
noncomputable def WordOf (m w : Nat) : Prop := m = 158 ∧ w = 97 ∨ m = 157 ∧ w = 124 ∨ m = 159 ∧ w = 20
noncomputable def badRow : V → Bool
  | .tup [_, .str w] => !(Nat.beq w 0)
  | _ => false
mutual
inductive Chk (ob : Nat → Option (List Int)) (H : Nat → Nat → Option V) : V → List V → Nat → Prop
  | none {t : V} {k : Nat} {r ch rows : List V} {n : Nat} : t = .tup (.str k :: r) → StepOk ob H t k ch → ChkL ob H ch rows n → Chk ob H t rows (n + 1)
  | good {t : V} {k : Nat} {r ch rows : List V} {n : Nat} {spot : Int} : t = .tup (.str k :: r) → StepOk ob H t k ch → ChkL ob H ch rows n → Chk ob H t (rowV spot 0 :: rows) (n + 1)
  | bad {t : V} {k : Nat} {r ch rows : List V} {n m w : Nat} {spot : Int} : t = .tup (.str k :: r) → StepBad ob H t k (.str m) (.int spot) → WordOf m w → ChkL ob H ch rows n → Chk ob H t (rowV spot w :: rows) (n + 1)
inductive ChkL (ob : Nat → Option (List Int)) (H : Nat → Nat → Option V) : List V → List V → Nat → Prop
  | nil : ChkL ob H [] [] 0
  | cons {t : V} {ts rows rows' : List V} {n n' : Nat} : Chk ob H t rows n → ChkL ob H ts rows' n' → ChkL ob H (t :: ts) (rows ++ rows') (n + n')
end
section
variable {ob : Nat → Option (List Int)} {H : Nat → Nat → Option V} {P : List V}
theorem ChkL.append : ∀ {p q rows rows' : List V} {n n' : Nat}, ChkL ob H p rows n → ChkL ob H q rows' n' → ChkL ob H (p ++ q) (rows ++ rows') (n + n')
  | [], q, _, rows', _, n', .nil, h => by simpa using h
  | t :: ts, q, _, rows', _, n', .cons (n := n) (n' := n1) a b, h => by
    rw [List.cons_append, List.append_assoc, Nat.add_assoc]
    exact .cons a (b.append h)
theorem Chk.pos {t : V} {rows : List V} {n : Nat} (h : Chk ob H t rows n) : 0 < n := by cases h <;> omega
theorem ChkL.len : ∀ {p rows : List V} {n : Nat}, ChkL ob H p rows n → p.length ≤ n
  | [], _, _, _ => Nat.zero_le _
  | t :: ts, _, _, .cons a b => by have := a.pos; have := b.len; simp only [List.length_cons]; omega
theorem filt2 {γ : Env1} : ((γ.filter fun q => !(Nat.beq q.1 2)).filter fun q => !(Nat.beq q.1 2)) = γ.filter fun q => !(Nat.beq q.1 2) := by
  rw [List.filter_filter]
  simp

theorem loop_ok : ∀ (f : Nat) (p rows : List V) (n : Nat) (γ : Env1) (g : Store), ChkL ob H p rows n → n < f → n ≤ 100000 → γ.lookup 43 = some (.ref 1) → γ.lookup 89 = some .none →
    match rows.find? badRow with
    | none => ∃ γ' σ', loopW (evT (cmC ob H) f_check_matches.sc cmT) (exSs (cmC ob H) cmB) f γ (P :: p.reverse :: g) = some (.next, γ', σ')
    | some x => ∃ m w spot γ' σ', x = rowV spot w ∧ WordOf m w ∧ loopW (evT (cmC ob H) f_check_matches.sc cmT) (exSs (cmC ob H) cmB) f γ (P :: p.reverse :: g) = some (.exc (.str m) (.int spot), γ', σ')
  | 0, _, _, _, _, _, _, h, _, _, _ => absurd h (Nat.not_lt_zero _)
  | f + 1, p, rows, n, γ, g, hc, hf, hn, h1, h2 => by
    have hlen := hc.len
    have l1 : (γ.filter fun q => !(Nat.beq q.1 2)).lookup 43 = some (.ref 1) := by rw [lookup_filter (by decide)]; exact h1
    have l2 : (γ.filter fun q => !(Nat.beq q.1 2)).lookup 89 = some .none := by rw [lookup_filter (by decide)]; exact h2
    cases hc with
    | nil =>
      refine ⟨γ, P :: [] :: (g ++ [[]]), ?_⟩
      rw [loopW_succ]
      rw [show ([] : List V).reverse = [] from rfl, test_ok h1]
      rfl
    | @cons t ts rows1 rows2 n1 n2 a b =>
      have hrev : (t :: ts).reverse = ts.reverse ++ [t] := List.reverse_cons
      have htest := test_ok (ob := ob) (H := H) (P := P) (L := ts.reverse ++ [t]) (g := g) h1
      have hne : (!(ts.reverse ++ [t]).isEmpty) = true := by simp
      rw [hne] at htest
      have ts_len := b.len
      have key : ∀ (k : Nat) (r ch rws : List V) (m : Nat), t = .tup (.str k :: r) → StepOk ob H t k ch → ChkL ob H ch rws m → m + n2 < f → m + n2 ≤ 100000 →
          match (rws ++ rows2).find? badRow with
          | none => ∃ γ' σ', loopW (evT (cmC ob H) f_check_matches.sc cmT) (exSs (cmC ob H) cmB) (f + 1) γ (P :: (t :: ts).reverse :: g) = some (.next, γ', σ')
          | some x => ∃ m w spot γ' σ', x = rowV spot w ∧ WordOf m w ∧ loopW (evT (cmC ob H) f_check_matches.sc cmT) (exSs (cmC ob H) cmB) (f + 1) γ (P :: (t :: ts).reverse :: g) = some (.exc (.str m) (.int spot), γ', σ') := by
        intro k r ch rws m ht hs hch hm1 hm2
        have chl := hch.len
        obtain ⟨g', hb⟩ := body_ok (ob := ob) (H := H) (P := P) (L := ts.reverse) (g := g ++ [[]]) (γ := γ) ht hs h1 h2 rfl (by rw [List.length_reverse]; omega)
        have hl2 : ts.reverse ++ ch.reverse = (ch ++ ts).reverse := by rw [List.reverse_append]
        rw [hl2] at hb
        have ih := loop_ok f (ch ++ ts) (rws ++ rows2) (m + n2) ((2, t) :: γ.filter fun q => !(Nat.beq q.1 2)) g' (hch.append b) hm1 hm2 (by rw [List.lookup_cons]; exact l1) (by rw [List.lookup_cons]; exact l2)
        have hstep : loopW (evT (cmC ob H) f_check_matches.sc cmT) (exSs (cmC ob H) cmB) (f + 1) γ (P :: (t :: ts).reverse :: g) = loopW (evT (cmC ob H) f_check_matches.sc cmT) (exSs (cmC ob H) cmB) f ((2, t) :: γ.filter fun q => !(Nat.beq q.1 2)) (P :: (ch ++ ts).reverse :: g') := by
          rw [loopW_succ]
          rw [hrev, htest]
          simp only [Option.bind_some, if_true, hb]
        rw [hstep]
        exact ih
      cases a with
      | @none _ k r ch rows n ht hs hch => exact key k r ch rows1 n ht hs hch (by omega) (by omega)
      | @good _ k r ch rows n spot ht hs hch =>
        rw [List.cons_append, List.find?_cons_of_neg (fun h => by cases h)]
        exact key k r ch rows n ht hs hch (by omega) (by omega)
      | @bad _ k r ch rows n m w spot ht hs hw hch =>
        have hbad : badRow (rowV spot w) = true := by
          rcases hw with ⟨_, rfl⟩ | ⟨_, rfl⟩ | ⟨_, rfl⟩ <;> rfl
        rw [List.cons_append, List.find?_cons_of_pos hbad]
        refine ⟨m, w, spot, (2, t) :: γ.filter fun q => !(Nat.beq q.1 2), P :: ts.reverse :: (g ++ [[]]), rfl, hw, ?_⟩
        have hb := body_bad (ob := ob) (H := H) (P := P) (L := ts.reverse) (g := g ++ [[]]) (γ := γ) ht hs h1 h2 rfl (by rw [List.length_reverse]; omega)
        rw [loopW_succ]
        rw [hrev, htest]
        simp only [Option.bind_some, if_true, hb]
end
end Mine
end
section
open PySem
set_option maxRecDepth 100000
set_option autoImplicit false
set_option linter.unusedVariables false
set_option linter.unusedSimpArgs false
namespace Mine
section
variable {ob : Nat → Option (List Int)} {H : Nat → Nat → Option V}
theorem miss_each : RF ob H 37 111 [.ref 0, boolV, .none] [[pEach]] = some (.ret .none, [[pEach]]) := by kernel_rfl
theorem miss_yes : (RF ob H 37 111 [.ref 0, boolV, .none] [[pYes]]).map (fun q => (match q.1 with | .ret (.tup _) => true | _ => false, q.2)) = some (true, [[pYes]]) := by kernel_rfl
theorem loopF_one {body : V → Env1 → Store → ExR} {x : V} {γ γ' : Env1} {σ σ' : Store} (h : body x γ σ = some (.next, γ', σ')) : loopF body (.tup [x]) FU 0 γ σ = some (.next, γ', σ') := by
  show loopF body (.tup [x]) (99998 + 1 + 1) 0 γ σ = _
  rw [loopF_succ]
  simp only [srcAt, List.getElem?_cons_zero, h, Option.bind_some]
  rw [loopF_succ]
  simp [srcAt]
noncomputable def cmFor : IS := match f_check_matches.body with
  | .cons s _ => s
  | _ => .opq (.Pass ⟨0, 0, 0, 0⟩)
theorem for_each {x : Nat} {γ : Env1} (hH : H 100 x = some (.tup [pEach])) : exS (cmC ob H) cmFor [(89, .none), (126, .obj x)] [] = some (.next, [(112, pEach), (89, .none), (126, .obj x)], [[pEach]]) := by
  have hm := miss_each (ob := ob) (H := H)
  have hb : (GH ob H).n = 161 := by rfl
  have hsc : f_check_matches.sc = ⟨[126, 89, 112, 43, 2], [], [111, 148, 145, 146, 121]⟩ := rfl
  unfold cmFor f_check_matches
  rw [exS_forS]
  have hmm : (cmC ob H).mm = true := rfl
  rw [hmm, if_pos rfl]
  have hit : itSrc (cmC ob H) (cmC ob H).sc (.over (.hook 0 126 100 ⟨278, 19, 278, 27⟩ ⟨278, 19, 278, 34⟩)) [(89, .none), (126, .obj x)] [] = some (.tup [pEach], []) := by
    have hH' : (GH ob H).H 100 x = some (.tup [pEach]) := hH
    simp [itSrc, evE_none, evE_bool, evE_int, evE_str, evE_lv, evE_gi, evE_tup, evE_lst, evE_idx, evE_slc, evE_rev, evE_bin, evE_cmp, evE_and, evE_or, evE_not, evE_neg, evE_ite, evE_call, evE_bcall, evE_meth, evE_comp_no, evE_comp_yes, evE_hook, evE_opq, List.lookup, Gx.cfg, hH', srcOf]
  rw [hit, Option.bind_some]
  refine loopF_one ?_
  simp [exSs_nil, exSs_cons, exS_asg, exS_asgT, exS_asgI, exS_expr, exS_exprC, exS_ifS, exS_forS, exS_whileS, exS_ret, exS_raise, exS_opq, evT, evE_none, evE_bool, evE_int, evE_str, evE_lv, evE_gi, evE_tup, evE_lst, evE_idx, evE_slc, evE_rev, evE_bin, evE_cmp, evE_and, evE_or, evE_not, evE_neg, evE_ite, evE_call, evE_bcall, evE_meth, evE_comp_no, evE_comp_yes, evE_hook, evE_opq, evEs_nil, evEs_cons, bindT, idxV, itemsOf, cmpV_eq, cmpV_ne, cmpV_lt, cmpV_ge, cmpV_gt, cmpV_is, cmpV_isnot, cmpV_in, cmpV_inS, isNone_none, isNone_bool, isNone_tup, isNone_ref, truth, bcallV_len, bcallV_list, bcallV_tupT, bcallV_tupL, bcallV_int, bcallV_bool, bcallV_max, bcallV_min, mkLst, mkTup, store, okL, lim, List.lookup, Gx.cfg, nbeq, nble, nblt, hb, hsc, hm]

theorem asg_left {x : Nat} {tree : V} (hH : H 33 x = some tree) {γ : Env1} {P : List V} (hγ : γ.lookup 126 = some (.obj x)) (hγ2 : (γ.filter fun q => !(Nat.beq q.1 43)) = γ) :
    exS (cmC ob H) (match f_check_matches.body with | .cons _ (.cons s _) => s | _ => .opq (.Pass ⟨0, 0, 0, 0⟩)) γ [P] = some (.next, (43, .ref 1) :: γ, [P, [tree]]) := by
  have hb : (GH ob H).n = 161 := by rfl
  have hsc : f_check_matches.sc = ⟨[126, 89, 112, 43, 2], [], [111, 148, 145, 146, 121]⟩ := rfl
  have hH' : (GH ob H).H 33 x = some tree := hH
  simp only [nbeq] at hγ2
  unfold f_check_matches
  simp [exS_asg, exS_asgT, exS_asgI, exS_expr, exS_exprC, exS_ifS, exS_forS, exS_whileS, exS_ret, exS_raise, exS_opq, evE_none, evE_bool, evE_int, evE_str, evE_lv, evE_gi, evE_tup, evE_lst, evE_idx, evE_slc, evE_rev, evE_bin, evE_cmp, evE_and, evE_or, evE_not, evE_neg, evE_ite, evE_call, evE_bcall, evE_meth, evE_comp_no, evE_comp_yes, evE_hook, evE_opq, evEs_nil, evEs_cons, mkLst, store, asgOk_none, asgOk_bool, asgOk_int, asgOk_str, asgOk_lv, asgOk_gi, asgOk_tup, asgOk_lst, asgOk_idx, asgOk_slc, asgOk_rev, asgOk_bin, asgOk_cmp, asgOk_and, asgOk_or, asgOk_not, asgOk_neg, asgOk_ite, asgOk_call, asgOk_bcall, asgOk_meth, asgOk_hook, asgOk_comp, okL, lim, List.lookup, Gx.cfg, nbeq, nble, nblt, hb, hsc, hH', hγ, hγ2]

noncomputable def cmAsg : IS := match f_check_matches.body with
  | .cons _ (.cons s _) => s
  | _ => .opq (.Pass ⟨0, 0, 0, 0⟩)
noncomputable def cmP : Pos := match f_check_matches.body with
  | .cons _ (.cons _ (.cons (.whileS _ _ p) _)) => p
  | _ => ⟨0, 0, 0, 0⟩
theorem cm_body : f_check_matches.body = .cons cmFor (.cons cmAsg (.cons (.whileS cmT cmB cmP) .nil)) := by rfl
theorem exSs_next {C : Cfg} {s : IS} {r : ISs} {γ γ' : Env1} {σ σ' : Store} (h : exS C s γ σ = some (.next, γ', σ')) : exSs C (.cons s r) γ σ = exSs C r γ' σ' := by
  rw [exSs_cons]
  rw [h, Option.bind_some]
theorem exSs_exc {C : Cfg} {s : IS} {r : ISs} {γ γ' : Env1} {σ σ' : Store} {m sp : V} (h : exS C s γ σ = some (.exc m sp, γ', σ')) : exSs C (.cons s r) γ σ = some (.exc m sp, γ', σ') := by
  rw [exSs_cons]
  rw [h, Option.bind_some]
theorem exS_while {C : Cfg} {t : IE} {b : ISs} {p : Pos} {γ : Env1} {σ : Store} : exS C (.whileS t b p) γ σ = loopW (evT C C.sc t) (exSs C b) FU γ σ := by
  exact exS_whileS
theorem check_ok {x : Nat} {tree : V} {rows : List V} {n : Nat} (hP : H 100 x = some (.tup [pEach])) (hB : H 33 x = some tree) (hc : Chk ob H tree rows n) (hn : n ≤ 90000) :
    match rows.find? badRow with
    | none => ∃ σ', RF ob H 38 150 [.obj x, .none] [] = some (.ret .none, σ')
    | some y => ∃ m w spot σ', y = rowV spot w ∧ WordOf m w ∧ RF ob H 38 150 [.obj x, .none] [] = some (.exc (.str m) (.int spot), σ') := by
  have h1 := for_each (ob := ob) (γ := []) hP
  have h2 : exS (cmC ob H) cmAsg [(112, pEach), (89, .none), (126, .obj x)] [[pEach]] = _ := asg_left (ob := ob) hB (P := [pEach]) rfl rfl
  have hcl : ChkL ob H [tree] rows n := by simpa using ChkL.cons hc .nil
  have h3 := loop_ok (P := [pEach]) FU [tree] rows n ((43, .ref 1) :: [(112, pEach), (89, .none), (126, .obj x)]) [] hcl (by unfold FU; omega) (by omega) rfl rfl
  have hrun : RF ob H 38 150 [.obj x, .none] [] = callFn (GH ob H) (RF ob H 37) f_check_matches [.obj x, .none] [] := RF_plain (by rfl) (by rfl)
  have hcall : callFn (GH ob H) (RF ob H 37) f_check_matches [.obj x, .none] [] = (exSs (cmC ob H) (.cons (.whileS cmT cmB cmP) .nil) ((43, .ref 1) :: [(112, pEach), (89, .none), (126, .obj x)]) [[pEach], [tree]]).bind fun r => match r.1 with
      | .ret v => some (.ret v, r.2.2)
      | .next => some (.ret .none, r.2.2)
      | .exc m s => some (.exc m s, r.2.2)
      | _ => none := by
    unfold callFn
    rw [cm_body]
    rw [if_pos (by rfl)]
    have e0 : (f_check_matches.params.zip [V.obj x, V.none]).reverse = [(89, .none), (126, .obj x)] := rfl
    rw [e0]
    show (exSs (cmC ob H) _ _ _).bind _ = _
    rw [exSs_next h1, exSs_next h2]
    try rfl
  cases hf : rows.find? badRow with
  | none =>
    rw [hf] at h3
    obtain ⟨γ', σ', h3⟩ := h3
    refine ⟨σ', ?_⟩
    rw [hrun, hcall, exSs_next (γ' := γ') (σ' := σ') (by rw [exS_while]; exact h3)]
    rfl
  | some y =>
    rw [hf] at h3
    obtain ⟨m, w, spot, γ', σ', e1, e2, h3⟩ := h3
    refine ⟨m, w, spot, σ', e1, e2, ?_⟩
    rw [hrun, hcall, exSs_exc (γ' := γ') (σ' := σ') (by rw [exS_while]; exact h3)]
    rfl

theorem loopF_exc {body : V → Env1 → Store → ExR} {x m sp : V} {γ γ' : Env1} {σ σ' : Store} (h : body x γ σ = some (.exc m sp, γ', σ')) : loopF body (.tup [x]) FU 0 γ σ = some (.exc m sp, γ', σ') := by
  show loopF body (.tup [x]) (99998 + 1 + 1) 0 γ σ = _
  rw [loopF_succ]
  simp only [srcAt, List.getElem?_cons_zero, h, Option.bind_some]
theorem for_yes {x : Nat} (hH : H 100 x = some (.tup [pYes])) : exS (cmC ob H) cmFor [(89, .none), (126, .obj x)] [] = some (.exc (.str 160) (.int 0), [(112, pYes), (89, .none), (126, .obj x)], [[pYes]]) := by
  obtain ⟨w, hm⟩ : ∃ w, RF ob H 37 111 [.ref 0, boolV, .none] [[pYes]] = some (.ret (.tup w), [[pYes]]) := by
    have h := miss_yes (ob := ob) (H := H)
    cases e : RF ob H 37 111 [.ref 0, boolV, .none] [[pYes]] with
    | none => rw [e] at h; cases h
    | some q =>
      rw [e] at h
      obtain ⟨r, s⟩ := q
      simp only [Option.map_some, Option.some.injEq, Prod.mk.injEq] at h
      obtain ⟨h1, rfl⟩ := h
      cases r with
      | exc => cases h1
      | ret v => cases v with
        | tup w => exact ⟨w, rfl⟩
        | _ => cases h1
  have hb : (GH ob H).n = 161 := by rfl
  have hr : (GH ob H).rz 148 = true := by rfl
  have hsc : f_check_matches.sc = ⟨[126, 89, 112, 43, 2], [], [111, 148, 145, 146, 121]⟩ := rfl
  unfold cmFor f_check_matches
  rw [exS_forS]
  have hmm : (cmC ob H).mm = true := rfl
  rw [hmm, if_pos rfl]
  have hit : itSrc (cmC ob H) (cmC ob H).sc (.over (.hook 0 126 100 ⟨278, 19, 278, 27⟩ ⟨278, 19, 278, 34⟩)) [(89, .none), (126, .obj x)] [] = some (.tup [pYes], []) := by
    have hH' : (GH ob H).H 100 x = some (.tup [pYes]) := hH
    simp [itSrc, evE_none, evE_bool, evE_int, evE_str, evE_lv, evE_gi, evE_tup, evE_lst, evE_idx, evE_slc, evE_rev, evE_bin, evE_cmp, evE_and, evE_or, evE_not, evE_neg, evE_ite, evE_call, evE_bcall, evE_meth, evE_comp_no, evE_comp_yes, evE_hook, evE_opq, List.lookup, Gx.cfg, hH', srcOf]
  rw [hit, Option.bind_some]
  refine loopF_exc ?_
  simp [exSs_nil, exSs_cons, exS_asg, exS_asgT, exS_asgI, exS_expr, exS_exprC, exS_ifS, exS_forS, exS_whileS, exS_ret, exS_raise, exS_opq, evT, evE_none, evE_bool, evE_int, evE_str, evE_lv, evE_gi, evE_tup, evE_lst, evE_idx, evE_slc, evE_rev, evE_bin, evE_cmp, evE_and, evE_or, evE_not, evE_neg, evE_ite, evE_call, evE_bcall, evE_meth, evE_comp_no, evE_comp_yes, evE_hook, evE_opq, evEs_nil, evEs_cons, evO_no, evO_yes, bindT, idxV, itemsOf, cmpV_eq, cmpV_ne, cmpV_lt, cmpV_ge, cmpV_gt, cmpV_is, cmpV_isnot, cmpV_in, cmpV_inS, isNone_none, isNone_bool, isNone_tup, isNone_ref, truth, bcallV_len, bcallV_list, bcallV_tupT, bcallV_tupL, bcallV_int, bcallV_bool, bcallV_max, bcallV_min, mkLst, mkTup, store, okL, lim, List.lookup, Gx.cfg, nbeq, nble, nblt, hb, hr, hsc, hm]
theorem check_yes {x : Nat} (hP : H 100 x = some (.tup [pYes])) : ∃ σ', RF ob H 38 150 [.obj x, .none] [] = some (.exc (.str 160) (.int 0), σ') := by
  refine ⟨[[pYes]], ?_⟩
  rw [RF_plain (fn := f_check_matches) (by rfl) (by rfl)]
  unfold callFn
  rw [cm_body]
  rw [if_pos (by rfl)]
  have e0 : (f_check_matches.params.zip [V.obj x, V.none]).reverse = [(89, .none), (126, .obj x)] := rfl
  rw [e0]
  show (exSs (cmC ob H) _ _ _).bind _ = _
  rw [exSs_exc (for_yes hP)]
  rfl
end
end Mine
end
section
open PySem
set_option maxRecDepth 100000
set_option autoImplicit false
set_option linter.unusedVariables false
set_option linter.unusedSimpArgs false
namespace Mine
noncomputable def tsA : IS := match told_suite with
  | .cons s _ => s
  | .nil => .opq (.Pass ⟨0, 0, 0, 0⟩)
noncomputable def tsR : ISs := match told_suite with
  | .cons _ r => r
  | .nil => .nil
noncomputable def tsE : IE := match tsA with
  | .asg _ _ e _ => e
  | _ => .none 0 ⟨0, 0, 0, 0⟩
section
variable {ob : Nat → Option (List Int)}
theorem loopC_step {body : V → Store → Option (Option V × Store)} {src : Src} {n i : Nat} {σ σ' : Store} {x : V} {r : Option V} (h1 : srcAt src σ i = some (some x)) (h2 : body x σ = some (r, σ')) :
    loopC body src (n + 1) i σ = (loopC body src n (i + 1) σ').map fun q => (r.elim q.1 (fun v => v :: q.1), q.2) := by
  rw [loopC_succ]
  rw [h1]
  simp only [h2, Option.bind_some]
  cases r <;> rfl
theorem loopC_end {body : V → Store → Option (Option V × Store)} {src : Src} {n i : Nat} {σ : Store} (h1 : srcAt src σ i = some none) : loopC body src (n + 1) i σ = some ([], σ) := by
  rw [loopC_succ]
  rw [h1]
theorem loopC_lst4 {body : V → Store → Option (Option V × Store)} {x1 x2 x3 x4 : V} {r1 r2 r3 r4 : Option V} {σ : Store} {k : Nat} (hk : σ[k]? = some [x1, x2, x3, x4]) (h1 : body x1 σ = some (r1, σ)) (h2 : body x2 σ = some (r2, σ)) (h3 : body x3 σ = some (r3, σ)) (h4 : body x4 σ = some (r4, σ)) :
    loopC body (.lst k) FU 0 σ = some ([r1, r2, r3, r4].filterMap id, σ) := by
  show loopC body (.lst k) (99995 + 1 + 1 + 1 + 1 + 1) 0 σ = _
  rw [loopC_step (x := x1) (by simp [srcAt, hk]) h1, loopC_step (x := x2) (by simp [srcAt, hk]) h2, loopC_step (x := x3) (by simp [srcAt, hk]) h3, loopC_step (x := x4) (by simp [srcAt, hk]) h4, loopC_end (by simp [srcAt, hk])]
  cases r1 <;> cases r2 <;> cases r3 <;> cases r4 <;> rfl
theorem suite_one {a m w : Nat} {sp : V} {b1 b2 b3 b4 : Bool} (h1 : inS0 97 m = some b1) (h2 : inS0 124 m = some b2) (h3 : inS0 142 m = some b3) (h4 : inS0 20 m = some b4)
    (hw : [if b1 then some (V.str 97) else none, if b2 then some (V.str 124) else none, if b3 then some (V.str 142) else none, if b4 then some (V.str 20) else none].filterMap id = [.str w]) :
    ∃ γ' σ', exSs (suiteC ob (eH a (.str m) sp)) told_suite [(63, .obj a)] [] = some (.ret (.tup [sp, .str w]), γ', σ') := by
  have e1 : eH a (.str m) sp 110 a = some (.str m) := by simp [eH, nbeq]
  have e2 : eH a (.str m) sp 52 a = some sp := by simp [eH, nbeq, k_message, k_spot]
  have hb : tb.length = 161 := by rfl
  have hn : (suiteC ob (eH a (.str m) sp)).n = 161 := by rfl
  have hasg : exS (suiteC ob (eH a (.str m) sp)) tsA [(63, .obj a)] [] = some (.next, [(88, .ref 1), (63, .obj a)], [[.str 97, .str 124, .str 142, .str 20], [.str w]]) := by
    have hl := fun body h1 h2 h3 h4 => loopC_lst4 (body := body) (x1 := .str 97) (x2 := .str 124) (x3 := .str 142) (x4 := .str 20) (r1 := if b1 then some (V.str 97) else none) (r2 := if b2 then some (V.str 124) else none) (r3 := if b3 then some (V.str 142) else none) (r4 := if b4 then some (V.str 20) else none) (σ := [[.str 97, .str 124, .str 142, .str 20]]) (k := 0) rfl h1 h2 h3 h4
    unfold tsA told_suite
    have hwf : compWf 161 toldSc [(7, .local), (56, .local), (63, .free)] ⟨[56], [63], []⟩ [63] = true := by rfl
    have hok : asgOk toldSc 88 ⟨370, 8, 370, 13⟩ tsE = true := by rfl
    simp only [exS_asg, exS_asgT, exS_asgI, exS_expr, exS_exprC, exS_ifS, exS_forS, exS_whileS, exS_ret, exS_raise, exS_opq]
    rw [if_pos (by exact hok)]
    simp only [evE_none, evE_bool, evE_int, evE_str, evE_lv, evE_gi, evE_tup, evE_lst, evE_idx, evE_slc, evE_rev, evE_bin, evE_cmp, evE_and, evE_or, evE_not, evE_neg, evE_ite, evE_call, evE_bcall, evE_meth, evE_comp_no, evE_comp_yes, evE_hook, evE_opq]
    rw [if_pos (by rw [hn]; simp [suiteC, hwf, oneT])]
    simp [evE_none, evE_bool, evE_int, evE_str, evE_lv, evE_gi, evE_tup, evE_lst, evE_idx, evE_slc, evE_rev, evE_bin, evE_cmp, evE_and, evE_or, evE_not, evE_neg, evE_ite, evE_call, evE_bcall, evE_meth, evE_comp_no, evE_comp_yes, evE_hook, evE_opq, evEs_nil, evEs_cons, mkLst, okL, lim, nble, nblt, hb, suiteC, srcOf, srcOk]
    rw [hl]
    · simp [hw, store, toldSc, nbeq]
    · cases b1 <;> simp [bindT, store, evE_none, evE_bool, evE_int, evE_str, evE_lv, evE_gi, evE_tup, evE_lst, evE_idx, evE_slc, evE_rev, evE_bin, evE_cmp, evE_and, evE_or, evE_not, evE_neg, evE_ite, evE_call, evE_bcall, evE_meth, evE_comp_no, evE_comp_yes, evE_hook, evE_opq, List.lookup, cmpV_eq, cmpV_ne, cmpV_lt, cmpV_ge, cmpV_gt, cmpV_is, cmpV_isnot, cmpV_in, cmpV_inS, h1, e1, truth, nbeq]
    · cases b2 <;> simp [bindT, store, evE_none, evE_bool, evE_int, evE_str, evE_lv, evE_gi, evE_tup, evE_lst, evE_idx, evE_slc, evE_rev, evE_bin, evE_cmp, evE_and, evE_or, evE_not, evE_neg, evE_ite, evE_call, evE_bcall, evE_meth, evE_comp_no, evE_comp_yes, evE_hook, evE_opq, List.lookup, cmpV_eq, cmpV_ne, cmpV_lt, cmpV_ge, cmpV_gt, cmpV_is, cmpV_isnot, cmpV_in, cmpV_inS, h2, e1, truth, nbeq]
    · cases b3 <;> simp [bindT, store, evE_none, evE_bool, evE_int, evE_str, evE_lv, evE_gi, evE_tup, evE_lst, evE_idx, evE_slc, evE_rev, evE_bin, evE_cmp, evE_and, evE_or, evE_not, evE_neg, evE_ite, evE_call, evE_bcall, evE_meth, evE_comp_no, evE_comp_yes, evE_hook, evE_opq, List.lookup, cmpV_eq, cmpV_ne, cmpV_lt, cmpV_ge, cmpV_gt, cmpV_is, cmpV_isnot, cmpV_in, cmpV_inS, h3, e1, truth, nbeq]
    · cases b4 <;> simp [bindT, store, evE_none, evE_bool, evE_int, evE_str, evE_lv, evE_gi, evE_tup, evE_lst, evE_idx, evE_slc, evE_rev, evE_bin, evE_cmp, evE_and, evE_or, evE_not, evE_neg, evE_ite, evE_call, evE_bcall, evE_meth, evE_comp_no, evE_comp_yes, evE_hook, evE_opq, List.lookup, cmpV_eq, cmpV_ne, cmpV_lt, cmpV_ge, cmpV_gt, cmpV_is, cmpV_isnot, cmpV_in, cmpV_inS, h4, e1, truth, nbeq]
  rw [show told_suite = .cons tsA tsR from rfl, exSs_next hasg]
  unfold tsR told_suite
  simp [exSs_nil, exSs_cons, exS_asg, exS_asgT, exS_asgI, exS_expr, exS_exprC, exS_ifS, exS_forS, exS_whileS, exS_ret, exS_raise, exS_opq, evE_none, evE_bool, evE_int, evE_str, evE_lv, evE_gi, evE_tup, evE_lst, evE_idx, evE_slc, evE_rev, evE_bin, evE_cmp, evE_and, evE_or, evE_not, evE_neg, evE_ite, evE_call, evE_bcall, evE_meth, evE_comp_no, evE_comp_yes, evE_hook, evE_opq, evEs_nil, evEs_cons, cmpV_eq, cmpV_ne, cmpV_lt, cmpV_ge, cmpV_gt, cmpV_is, cmpV_isnot, cmpV_in, cmpV_inS, eqV_tup, eqV_ref, eqV_nt, eqV_tn, eqV_nn, eqV_int, eqV_bool, eqV_str, mkLst, mkTup, idxV, itemsOf, okL, lim, nble, nblt, hb, suiteC, List.lookup, truth, e2]
theorem suite158 (a : Nat) (sp : V) : ∃ γ' σ', exSs (suiteC ob (eH a (.str 158) sp)) told_suite [(63, .obj a)] [] = some (.ret (.tup [sp, .str 97]), γ', σ') :=
  suite_one (b1 := true) (b2 := false) (b3 := false) (b4 := false) (by decide +kernel) (by decide +kernel) (by decide +kernel) (by decide +kernel) rfl
theorem suite157 (a : Nat) (sp : V) : ∃ γ' σ', exSs (suiteC ob (eH a (.str 157) sp)) told_suite [(63, .obj a)] [] = some (.ret (.tup [sp, .str 124]), γ', σ') :=
  suite_one (b1 := false) (b2 := true) (b3 := false) (b4 := false) (by decide +kernel) (by decide +kernel) (by decide +kernel) (by decide +kernel) rfl
theorem suite159 (a : Nat) (sp : V) : ∃ γ' σ', exSs (suiteC ob (eH a (.str 159) sp)) told_suite [(63, .obj a)] [] = some (.ret (.tup [sp, .str 20]), γ', σ') :=
  suite_one (b1 := false) (b2 := false) (b3 := false) (b4 := true) (by decide +kernel) (by decide +kernel) (by decide +kernel) (by decide +kernel) rfl
theorem suite160 (a : Nat) (sp : V) : ∃ γ' σ', exSs (suiteC ob (eH a (.str 160) sp)) told_suite [(63, .obj a)] [] = some (.ret (.tup [sp, .str 142]), γ', σ') :=
  suite_one (b1 := false) (b2 := false) (b3 := true) (b4 := false) (by decide +kernel) (by decide +kernel) (by decide +kernel) (by decide +kernel) rfl
theorem suite_word {m w : Nat} (h : WordOf m w) (a : Nat) (sp : V) : ∃ γ' σ', exSs (suiteC ob (eH a (.str m) sp)) told_suite [(63, .obj a)] [] = some (.ret (.tup [sp, .str w]), γ', σ') := by
  rcases h with ⟨rfl, rfl⟩ | ⟨rfl, rfl⟩ | ⟨rfl, rfl⟩
  · exact suite158 a sp
  · exact suite157 a sp
  · exact suite159 a sp
end
end Mine
end
section
open PySem
set_option maxRecDepth 100000
set_option autoImplicit false
set_option linter.unusedVariables false
set_option linter.unusedSimpArgs false
namespace Mine
noncomputable def toldV (rows : List V) : V := (rows.find? badRow).getD .none
section
variable {c : Cx} {P : Params}
theorem told_each (B : Base c P) {H0 : Nat → Nat → Option V} (S0 : SndG c (GH c.ob H0)) {tree : V} {rows : List V} {n : Nat} {σ : Store} (n1 : noRef tree = true) (hc : ∀ H, Chk c.ob H tree rows n) (hn : n ≤ 90000) :
    CallOk c 39 135 [tree, pEach] σ (.ret (toldV rows)) (σ ++ [[]]) := by
  cases hf : rows.find? badRow with
  | none =>
    refine told_ok B S0 (framed := frm) (by rfl) (n := 36) (r := .ret .none) n1 rfl (by simp [toldV, hf, noRef]) (fun x => ?_) (.inl ⟨rfl, by simp [toldV, hf]⟩)
    have h := check_ok (ob := c.ob) (H := tH x pEach tree) (x := x) (tree := tree) (by simp [tH, nbeq]) (by simp [tH, nbeq, k_params, k_body]) (hc _) hn
    rw [hf] at h
    exact h
  | some y =>
    obtain ⟨m, w, spot, hy, hw⟩ : ∃ m w spot, y = rowV spot w ∧ WordOf m w := by
      have h := check_ok (ob := c.ob) (H := tH 0 pEach tree) (x := 0) (tree := tree) (by simp [tH, nbeq]) (by simp [tH, nbeq, k_params, k_body]) (hc _) hn
      rw [hf] at h
      obtain ⟨m, w, spot, σ', a, b, _⟩ := h
      exact ⟨m, w, spot, a, b⟩
    subst hy
    refine told_ok B S0 (framed := frm) (by rfl) (n := 36) (r := .exc (.str m) (.int spot)) n1 rfl (by simp [toldV, hf, noRef, noRefL]) (fun x => ?_) (.inr ⟨.str m, .int spot, rfl, rfl, rfl, fun a => ?_⟩)
    · have h := check_ok (ob := c.ob) (H := tH x pEach tree) (x := x) (tree := tree) (by simp [tH, nbeq]) (by simp [tH, nbeq, k_params, k_body]) (hc _) hn
      rw [hf] at h
      obtain ⟨m', w', spot', σ', a, b, e⟩ := h
      simp only [rowV, V.tup.injEq, List.cons.injEq, V.int.injEq, V.str.injEq, and_true] at a
      obtain ⟨rfl, rfl⟩ := a
      have : m' = m := by
        rcases b with ⟨p1, p2⟩ | ⟨p1, p2⟩ | ⟨p1, p2⟩ <;> rcases hw with ⟨q1, q2⟩ | ⟨q1, q2⟩ | ⟨q1, q2⟩ <;> omega
      subst this
      exact ⟨σ', e⟩
    · have := suite_word (ob := c.ob) hw a (.int spot)
      have e : toldV rows = .tup [.int spot, .str w] := by simp [toldV, hf]
      rw [e]
      exact this
theorem told_wrong (B : Base c P) {H0 : Nat → Nat → Option V} (S0 : SndG c (GH c.ob H0)) {tree : V} {σ : Store} (n1 : noRef tree = true) :
    CallOk c 39 135 [tree, pYes] σ (.ret (.tup [.int 0, .str 142])) (σ ++ [[]]) := by
  refine told_ok B S0 (framed := frm) (by rfl) (n := 36) (r := .exc (.str 160) (.int 0)) n1 rfl rfl (fun x => ?_) (.inr ⟨.str 160, .int 0, rfl, rfl, rfl, fun a => suite160 a _⟩)
  exact check_yes (ob := c.ob) (H := tH x pYes tree) (x := x) (by simp [tH, nbeq])
end
end Mine
end
section
open PySem
set_option maxRecDepth 100000
set_option autoImplicit false
set_option linter.unusedVariables false
set_option linter.unusedSimpArgs false
namespace Mine
noncomputable def stDrop : Nat → ISs → ISs
  | 0, b => b
  | _ + 1, .nil => .nil
  | n + 1, .cons _ r => stDrop n r
noncomputable def stAt (n : Nat) (b : ISs) : IS := match stDrop n b with
  | .cons s _ => s
  | .nil => .opq (.Pass ⟨0, 0, 0, 0⟩)
/-- the part of an if that is run where the test holds -/
noncomputable def stThen : IS → ISs
  | .ifS _ a _ _ => a
  | _ => .nil
structure NT (ob : Nat → Option (List Int)) (t : V) (G : List V) (n : Nat) : Prop where
  nr : noRef t = true
  sh : ∃ k r, t = .tup (.str k :: boolV :: r)
  ng : noRefL G = true
  len : G.length ≤ n
  chk : ∀ H, Chk ob H t G n
noncomputable def NodeP (ob : Nat → Option (List Int)) (H : Nat → Nat → Option V) (m : Nat) (d : Int) (K : Nat) : Prop :=
  ∀ (s f : Nat) (σ : Store) (a b : Int) (F : List V), s ≠ f → σ[s]? = some [.int a, .int b] → σ[f]? = some F → noRefL F = true → F.length + K ≤ 1000 →
    ∃ t a' b' G n, RF ob H m 132 [.ref s, .int d, .ref f] σ = some (.ret t, (σ.set s [.int a', .int b']).set f (F ++ G)) ∧ NT ob t G n ∧ n ≤ K
noncomputable def NodeS (ob : Nat → Option (List Int)) (H : Nat → Nat → Option V) (m : Nat) (d : Int) (K : Nat) : Prop :=
  ∀ (a b : Int) (F : List V), noRefL F = true → F.length + K ≤ 1000 →
    ∃ t a' b' G n g, callFn (GH ob H) (RF ob H m) f_law_node [.ref 0, .int d, .ref 1] [[.int a, .int b], F] = some (.ret t, [.int a', .int b'] :: (F ++ G) :: g) ∧ NT ob t G n ∧ n ≤ K
theorem noRefL_append {a b : List V} : noRefL (a ++ b) = (noRefL a && noRefL b) := by
  induction a with
  | nil => rfl
  | cons v r ih => simp [noRefL, ih, Bool.and_assoc]
theorem frame2 {g : List V → Store → Option (Res × Store)} {s f : Nat} {v w : V} {σ gs : Store} {l1 l2 l1' l2' : List V} (hsf : s ≠ f) (h1 : σ[s]? = some l1) (h2 : σ[f]? = some l2) (n1 : noRefL l1 = true) (n2 : noRefL l2 = true) (n3 : noRefL l1' = true) (n4 : noRefL l2' = true) (hv : noRef v = true) (hw : noRef w = true)
    (hg : g [.ref 0, v, .ref 1] [l1, l2] = some (.ret w, l1' :: l2' :: gs)) : frameCall g [.ref s, v, .ref f] σ = some (.ret w, (σ.set s l1').set f l2') := by
  have r1 : refsOf [.ref s, v, .ref f] = [s, f] := by cases v <;> first | rfl | (simp [noRef] at hv)
  have r2 : renArgs [.ref s, v, .ref f] 0 = [.ref 0, v, .ref 1] := by cases v <;> first | rfl | (simp [noRef] at hv)
  unfold frameCall
  rw [r1, r2]
  simp [distinct, memN, nbeq, hsf, allL, isRef, hv, gets, h1, h2, n1, n2, hg, frameEnd, nble, n3, n4]
  cases w <;> first | (simp [noRef] at hw; done) | simp [hw, puts]
section
variable {ob : Nat → Option (List Int)} {H : Nat → Nat → Option V} {k K : Nat} {d : Int}
theorem node_of_small {m : Nat} (h : NodeS ob H m d K) : NodeP ob H (m + 1) d K := by
  intro s f σ a b F hsf h1 h2 hF hl
  obtain ⟨t, a', b', G, n, g, e, N, hn⟩ := h a b F hF hl
  refine ⟨t, a', b', G, n, ?_, N, hn⟩
  rw [RF_framed (fn := f_law_node) (by rfl) (by rfl)]
  exact frame2 hsf h1 h2 rfl hF rfl (by rw [noRefL_append, hF, N.ng]; rfl) rfl N.nr e
noncomputable abbrev ndC (ob : Nat → Option (List Int)) (H : Nat → Nat → Option V) (k : Nat) : Cfg := (GH ob H).cfg (RF ob H (k + 3)) f_law_node.sc
noncomputable abbrev ndB : ISs := f_law_node.body
theorem skip_eq {C : Cfg} {p1 p2 p3 p4 : Pos} {i w : Int} {a r : ISs} {γ : Env1} {σ : Store} (h : γ.lookup 28 = some (.int w)) (hne : w ≠ i) : exSs C (.cons (.ifS (.cmp .eq (.lv 28 p1) (.int i 0 p2) p3) a .nil p4) r) γ σ = exSs C r γ σ := by
  refine ss_next (st_if (c := false) (σ1 := σ) (evT_of (ev_bool (ev_cmp (lv_at h) rfl rfl) (decide_eq_false hne))) rfl) rfl
theorem take_eq {C : Cfg} {p1 p2 p3 p4 : Pos} {w : Int} {a r : ISs} {γ γ' : Env1} {σ σ' : Store} {v : V} (h : γ.lookup 28 = some (.int w)) (ha : exSs C a γ σ = some (.ret v, γ', σ')) : exSs C (.cons (.ifS (.cmp .eq (.lv 28 p1) (.int w 0 p2) p3) a .nil p4) r) γ σ = some (.ret v, γ', σ') := by
  exact ss_end (st_if (c := true) (evT_of (ev_bool (ev_cmp (lv_at h) rfl rfl) (decide_eq_true rfl))) ha) rfl
theorem skip_lt {C : Cfg} {p1 p2 p3 p4 : Pos} {i w : Int} {a r : ISs} {γ : Env1} {σ : Store} (h : γ.lookup 28 = some (.int w)) (hne : ¬ w < i) : exSs C (.cons (.ifS (.cmp .lt (.lv 28 p1) (.int i 0 p2) p3) a .nil p4) r) γ σ = exSs C r γ σ := by
  refine ss_next (st_if (c := false) (σ1 := σ) (evT_of (ev_bool (ev_cmp (lv_at h) rfl rfl) (decide_eq_false hne))) rfl) rfl
theorem take_lt {C : Cfg} {p1 p2 p3 p4 : Pos} {i w : Int} {a r : ISs} {γ γ' : Env1} {σ σ' : Store} {v : V} (h : γ.lookup 28 = some (.int w)) (hlt : w < i) (ha : exSs C a γ σ = some (.ret v, γ', σ')) : exSs C (.cons (.ifS (.cmp .lt (.lv 28 p1) (.int i 0 p2) p3) a .nil p4) r) γ σ = some (.ret v, γ', σ') := by
  exact ss_end (st_if (c := true) (evT_of (ev_bool (ev_cmp (lv_at h) rfl rfl) (decide_eq_true hlt))) ha) rfl
/-- the names after the first two rows -/
noncomputable abbrev γw (d w spot : Int) : Env1 := [(28, .int w), (52, .int spot), (51, boolV), (66, .ref 1), (38, .int d), (105, .ref 0)]
noncomputable abbrev spotOf (F : List V) : Int := 10 * (F.length : Int) + 1
theorem pre0 {a b : Int} {F : List V} (hF : F.length ≤ 1000) : exS (ndC ob H k) (stAt 0 ndB) [(66, .ref 1), (38, .int d), (105, .ref 0)] [[.int a, .int b], F] = some (.next, [(52, .int (spotOf F)), (51, boolV), (66, .ref 1), (38, .int d), (105, .ref 0)], [[.int a, .int b], F]) := by
  have hbool : RF ob H (k + 3) 131 [] [[.int a, .int b], F] = some (.ret boolV, [[.int a, .int b], F]) := by rfl
  exact st_asgT (vs := [boolV, .int (spotOf F)]) (by kernel_rfl) (ev_tup (evs_call hbool (by rfl) (by kernel_rfl) (evs_one (ev_bin (v := .int (10 * (F.length : Int))) (σ1 := [[.int a, .int b], F]) (σ2 := [[.int a, .int b], F]) (ev_bin (v := .int 10) (σ1 := [[.int a, .int b], F]) (by kernel_rfl) (ev_bcall (by kernel_rfl) (σ1 := [[.int a, .int b], F]) (vs := [.ref 1]) (by kernel_rfl) (len_ref (by rfl) (Nat.le_trans hF (by decide)))) (by kernel_rfl)) (w := .int 1) (by kernel_rfl) (by kernel_rfl)))) (by rfl)) (by kernel_rfl)
theorem pre1p {a b : Int} {F : List V} {spot : Int} (hd : 0 < d) : ∃ w a' b', 0 ≤ w ∧ w < 14 ∧ exS (ndC ob H k) (stAt 1 ndB) [(52, .int spot), (51, boolV), (66, .ref 1), (38, .int d), (105, .ref 0)] [[.int a, .int b], F] = some (.next, γw d w spot, [[.int a', .int b'], F]) := by
  obtain ⟨w, a', b', e, h1, h2⟩ := take_at (ob := ob) (H := H) (k := k + 2) (s := 0) (σ := [[.int a, .int b], F]) (top := 14) (by decide) (by decide) rfl
  refine ⟨w, a', b', h1, h2, ?_⟩
  have e : RF ob H (k + 3) 134 [.ref 0, .int 14] [[.int a, .int b], F] = some (.ret (.int w), [[.int a', .int b'], F]) := e
  exact st_asg (v := .int w) (by kernel_rfl) (ev_ite (c := true) (ev_bool (c := decide (d > 0)) (by kernel_rfl) (decide_eq_true hd)) (ev_call e (by rfl) (by kernel_rfl))) (by kernel_rfl)
theorem pre1l {a b : Int} {F : List V} {spot : Int} (hd : ¬ 0 < d) : exS (ndC ob H k) (stAt 1 ndB) [(52, .int spot), (51, boolV), (66, .ref 1), (38, .int d), (105, .ref 0)] [[.int a, .int b], F] = some (.next, γw d 14 spot, [[.int a, .int b], F]) := by
  exact st_asg (v := .int 14) (by kernel_rfl) (ev_ite (c := false) (ev_bool (c := decide (d > 0)) (by kernel_rfl) (decide_eq_false hd)) (by kernel_rfl)) (by kernel_rfl)
theorem ndB0 : ndB = .cons (stAt 0 ndB) (.cons (stAt 1 ndB) (stDrop 2 ndB)) := by rfl
theorem pre_pos {a b : Int} {F : List V} (hd : 0 < d) (hF : F.length ≤ 1000) : ∃ w a' b', 0 ≤ w ∧ w < 14 ∧ exSs (ndC ob H k) ndB [(66, .ref 1), (38, .int d), (105, .ref 0)] [[.int a, .int b], F] = exSs (ndC ob H k) (stDrop 2 ndB) (γw d w (spotOf F)) [[.int a', .int b'], F] := by
  obtain ⟨w, a', b', h1, h2, e⟩ := pre1p (ob := ob) (H := H) (k := k) (a := a) (b := b) (F := F) (spot := spotOf F) hd
  refine ⟨w, a', b', h1, h2, ?_⟩
  rw [ndB0, exSs_next (pre0 hF), exSs_next e, ← ndB0]
theorem pre_leaf {a b : Int} {F : List V} (hd : ¬ 0 < d) (hF : F.length ≤ 1000) : exSs (ndC ob H k) ndB [(66, .ref 1), (38, .int d), (105, .ref 0)] [[.int a, .int b], F] = exSs (ndC ob H k) (stDrop 2 ndB) (γw d 14 (spotOf F)) [[.int a, .int b], F] := by
  rw [ndB0, exSs_next (pre0 hF), exSs_next (pre1l hd), ← ndB0]
theorem if_lt4 : ∃ p1 p2 p3 p4, stDrop 2 ndB = .cons (.ifS (.cmp .lt (.lv 28 p1) (.int 4 0 p2) p3) (stThen (stAt 2 ndB)) .nil p4) (stDrop 3 ndB) := ⟨_, _, _, _, rfl⟩
theorem if_lt6 : ∃ p1 p2 p3 p4, stDrop 3 ndB = .cons (.ifS (.cmp .lt (.lv 28 p1) (.int 6 0 p2) p3) (stThen (stAt 3 ndB)) .nil p4) (stDrop 4 ndB) := ⟨_, _, _, _, rfl⟩
theorem if_at (j : Nat) (hj : j < 8) : ∃ p1 p2 p3 p4, stDrop (j + 5) ndB = .cons (.ifS (.cmp .eq (.lv 28 p1) (.int ((j : Int) + 6) 0 p2) p3) (stThen (stAt (j + 5) ndB)) .nil p4) (stDrop (j + 6) ndB) := by
  match j, hj with
  | 0, _ => exact ⟨_, _, _, _, rfl⟩
  | 1, _ => exact ⟨_, _, _, _, rfl⟩
  | 2, _ => exact ⟨_, _, _, _, rfl⟩
  | 3, _ => exact ⟨_, _, _, _, rfl⟩
  | 4, _ => exact ⟨_, _, _, _, rfl⟩
  | 5, _ => exact ⟨_, _, _, _, rfl⟩
  | 6, _ => exact ⟨_, _, _, _, rfl⟩
  | 7, _ => exact ⟨_, _, _, _, rfl⟩
  | n + 8, h => exact absurd h (by omega)
theorem pick {C : Cfg} {γ γ' : Env1} {σ σ' : Store} {v : V} (j : Nat) (hj : j < 8) (h : γ.lookup 28 = some (.int ((j : Int) + 6))) (ha : exSs C (stThen (stAt (j + 5) ndB)) γ σ = some (.ret v, γ', σ')) : exSs C (stDrop 5 ndB) γ σ = some (.ret v, γ', σ') := by
  have go : ∀ n i, i + n = j → exSs C (stDrop (i + 5) ndB) γ σ = some (.ret v, γ', σ') := by
    intro n
    induction n with
    | zero =>
      intro i hi
      obtain rfl : i = j := hi
      obtain ⟨p1, p2, p3, p4, e⟩ := if_at i hj
      rw [e]
      exact take_eq h ha
    | succ n ih =>
      intro i hi
      obtain ⟨p1, p2, p3, p4, e⟩ := if_at i (by omega)
      rw [e, skip_eq h (by omega)]
      exact ih (i + 1) (by omega)
  exact go j 0 (by omega)
theorem pick14 {C : Cfg} {γ : Env1} {σ : Store} (h : γ.lookup 28 = some (.int 14)) : exSs C (stDrop 5 ndB) γ σ = exSs C (stDrop 13 ndB) γ σ := by
  have go : ∀ n i, i + n = 8 → exSs C (stDrop (i + 5) ndB) γ σ = exSs C (stDrop 13 ndB) γ σ := by
    intro n
    induction n with
    | zero =>
      intro i hi
      obtain rfl : i = 8 := hi
      rfl
    | succ n ih =>
      intro i hi
      obtain ⟨p1, p2, p3, p4, e⟩ := if_at i (by omega)
      rw [e, skip_eq h (by omega)]
      exact ih (i + 1) (by omega)
  exact go 8 0 rfl
theorem ndB4 : stDrop 4 ndB = .cons (stAt 4 ndB) (stDrop 5 ndB) := by rfl
theorem pre6 {a b : Int} {F : List V} {w spot : Int} (hd : NodeP ob H (k + 3) (d - 1) K) (h1 : 6 ≤ w) (h2 : w < 14) (hF : noRefL F = true) (hl : F.length + K ≤ 1000) :
    ∃ t a' b' G n, exSs (ndC ob H k) (stDrop 2 ndB) (γw d w spot) [[.int a, .int b], F] = exSs (ndC ob H k) (stDrop 5 ndB) ((24, t) :: γw d w spot) [[.int a', .int b'], F ++ G] ∧ NT ob t G n ∧ n ≤ K := by
  obtain ⟨t, a', b', G, n, e, N, hn⟩ := hd 0 1 [[.int a, .int b], F] a b F (by decide) rfl rfl hF hl
  refine ⟨t, a', b', G, n, ?_, N, hn⟩
  have e : RF ob H (k + 3) 132 [.ref 0, .int (d - 1), .ref 1] [[.int a, .int b], F] = some (.ret t, [[.int a', .int b'], F ++ G]) := e
  obtain ⟨p1, p2, p3, p4, e4⟩ := if_lt4
  obtain ⟨q1, q2, q3, q4, e6⟩ := if_lt6
  rw [e4, skip_lt rfl (by omega), e6, skip_lt rfl (by omega), ndB4]
  have hs : exS (ndC ob H k) (stAt 4 ndB) (γw d w spot) [[.int a, .int b], F] = some (.next, (24, t) :: γw d w spot, [[.int a', .int b'], F ++ G]) := by
    exact st_asg (v := t) (by kernel_rfl) (ev_ite (c := true) (ev_bool (c := decide (w < 14)) (by kernel_rfl) (decide_eq_true h2)) (ev_call e (by rfl) (by kernel_rfl))) (by kernel_rfl)
  rw [exSs_next hs]
theorem pre6l {a b : Int} {F : List V} {spot : Int} : exSs (ndC ob H k) (stDrop 2 ndB) (γw d 14 spot) [[.int a, .int b], F] = exSs (ndC ob H k) (stDrop 5 ndB) ((24, .none) :: γw d 14 spot) [[.int a, .int b], F] := by
  obtain ⟨p1, p2, p3, p4, e4⟩ := if_lt4
  obtain ⟨q1, q2, q3, q4, e6⟩ := if_lt6
  rw [e4, skip_lt rfl (by omega), e6, skip_lt rfl (by omega), ndB4]
  have hs : exS (ndC ob H k) (stAt 4 ndB) (γw d 14 spot) [[.int a, .int b], F] = some (.next, (24, .none) :: γw d 14 spot, [[.int a, .int b], F]) := by
    kernel_rfl
  rw [exSs_next hs]

theorem step_inner {t : V} {ch : List V} (hn : noRef t = true) (hch : noRefL ch = true) (h : innerRun ob H t = some ch) (σ : Store) : RF ob H 37 121 [t] σ = some (.ret (.ref σ.length), σ ++ [ch]) := by
  have e := RF_framed (ob := ob) (H := H) (k := 36) (f := 121) (fn := f_inner_of) (args := [t]) (σ := σ) (by rfl) (by rfl)
  rw [e]
  unfold innerRun at h
  cases hc : callFn (GH ob H) (RF ob H 36) f_inner_of [t] [] with
  | none => rw [hc] at h; cases h
  | some q =>
    obtain ⟨r, s⟩ := q
    rw [hc, Option.bind_some] at h
    cases r with
    | exc m sp => cases h
    | ret v => cases v with
      | ref j => exact frame0l (by simp [noRefL, hn]) hch hc h
      | _ => cases h
theorem step_ok {f : Nat} {fn : Fn} {t : V} (h1 : fns1.lookup f = some fn) (h2 : frm f = true) (hn : noRef t = true) (h : (callFn (GH ob H) (RF ob H 36) fn [t, .none] []).map (·.1) = some (.ret .none)) (σ : Store) : RF ob H 37 f [t, .none] σ = some (.ret .none, σ) := by
  have e := RF_framed (ob := ob) (H := H) (k := 36) (f := f) (fn := fn) (args := [t, .none]) (σ := σ) h1 h2
  rw [e]
  cases hc : callFn (GH ob H) (RF ob H 36) fn [t, .none] [] with
  | none => rw [hc] at h; cases h
  | some q =>
    obtain ⟨r, s⟩ := q
    rw [hc] at h
    simp only [Option.map_some, Option.some.injEq] at h
    subst h
    exact frame0 (by simp [noRefL, noRef, hn]) rfl hc
theorem step_bad {f : Nat} {fn : Fn} {t m sp : V} (h1 : fns1.lookup f = some fn) (h2 : frm f = true) (hn : noRef t = true) (hm : noRef m = true) (hs : noRef sp = true) (h : (callFn (GH ob H) (RF ob H 36) fn [t, .none] []).map (·.1) = some (.exc m sp)) (σ : Store) : RF ob H 37 f [t, .none] σ = some (.exc m sp, σ) := by
  have e := RF_framed (ob := ob) (H := H) (k := 36) (f := f) (fn := fn) (args := [t, .none]) (σ := σ) h1 h2
  rw [e]
  cases hc : callFn (GH ob H) (RF ob H 36) fn [t, .none] [] with
  | none => rw [hc] at h; cases h
  | some q =>
    obtain ⟨r, s⟩ := q
    rw [hc] at h
    simp only [Option.map_some, Option.some.injEq] at h
    subst h
    exact frame0e (by simp [noRefL, noRef, hn]) hm hs hc
theorem chk_plain {t : V} {w n : Nat} {r ch rows : List V} (ht : t = .tup (.str w :: r)) (h1 : w ≠ 74) (h2 : w ≠ 58) (hn : noRef t = true) (hch : noRefL ch = true) (hi : innerRun ob H t = some ch) (hc : ChkL ob H ch rows n) : Chk ob H t rows (n + 1) :=
  .none ht ⟨fun e => absurd e h1, fun e => absurd e h2, step_inner hn hch hi⟩ hc
theorem chkL1 {t : V} {G : List V} {n : Nat} (h : Chk ob H t G n) : ChkL ob H [t] G n := by simpa using ChkL.cons h .nil
theorem chkL2 {t u : V} {G G' : List V} {n n' : Nat} (h : Chk ob H t G n) (h' : Chk ob H u G' n') : ChkL ob H [t, u] (G ++ G') (n + n') := .cons h (chkL1 h')
theorem chkL3 {t u v : V} {G G' G'' : List V} {n n' n'' : Nat} (h : Chk ob H t G n) (h' : Chk ob H u G' n') (h'' : Chk ob H v G'' n'') : ChkL ob H [t, u, v] (G ++ (G' ++ G'')) (n + (n' + n'')) := .cons h (chkL2 h' h'')
end
end Mine
end
section
open PySem
set_option maxRecDepth 100000
set_option autoImplicit false
set_option linter.unusedVariables false
set_option linter.unusedSimpArgs false
namespace Mine
section
variable {ob : Nat → Option (List Int)} {H : Nat → Nat → Option V} {k K : Nat} {d : Int}
theorem oneG {a b : Int} {F items : List V} {t : Nat} {g : Store} (ht : 2 ≤ t) (hg : ([.int a, .int b] :: F :: g)[t]? = some items) (h1 : 0 < items.length) (h2 : items.length ≤ 1000) : ∃ v a' b', v ∈ items ∧ RF ob H (k + 3) 117 [.ref 0, .ref t] ([.int a, .int b] :: F :: g) = some (.ret v, [.int a', .int b'] :: F :: g) := by
  obtain ⟨i, v, a', b', e1, e2⟩ := one_at (ob := ob) (H := H) (k := k + 1) (s := 0) (t := t) (σ := [.int a, .int b] :: F :: g) (a := a) (b := b) (items := items) (by omega) rfl hg h1 h2
  exact ⟨v, a', b', List.mem_of_getElem? e1, e2⟩
theorem node0 {a b : Int} {F : List V} {g : Store} {e : Int} (hd : NodeP ob H (k + 3) e K) (hF : noRefL F = true) (hl : F.length + K ≤ 1000) : ∃ t a' b' G n, RF ob H (k + 3) 132 [.ref 0, .int e, .ref 1] ([.int a, .int b] :: F :: g) = some (.ret t, [.int a', .int b'] :: (F ++ G) :: g) ∧ NT ob t G n ∧ n ≤ K := by
  obtain ⟨t, a', b', G, n, e, N, hn⟩ := hd 0 1 ([.int a, .int b] :: F :: g) a b F (by decide) rfl rfl hF hl
  exact ⟨t, a', b', G, n, e, N, hn⟩
theorem NT.plain {w n : Nat} {r G ch : List V} (h1 : w ≠ 74) (h2 : w ≠ 58) (hr : noRefL r = true) (hch : noRefL ch = true) (hi : ∀ H, innerRun ob H (.tup (.str w :: boolV :: r)) = some ch) (hc : ∀ H, ChkL ob H ch G n) (hG : noRefL G = true) (hl : G.length ≤ n) : NT ob (.tup (.str w :: boolV :: r)) G (n + 1) :=
  ⟨by simp [noRef, noRefL, hr], ⟨w, r, rfl⟩, hG, by omega, fun H => chk_plain rfl h1 h2 (by simp [noRef, noRefL, hr]) hch (hi H) (hc H)⟩
theorem NT.tail {w n : Nat} {r G : List V} (N : NT ob (.tup (.str w :: boolV :: r)) G n) : noRefL r = true := by
  simpa [noRef, noRefL] using N.nr
theorem modT {C : Cfg} {sc : Sc} {γ : Env1} {σ : Store} {spot : Int} {p1 p2 p3 p4 p5 : Pos} (h : Int.fmod spot 4 = 1) (hg : γ.lookup 52 = some (.int spot) := by rfl) : evE C sc (.cmp .eq (.bin .mod (.lv 52 p1) (.int 4 0 p2) p3) (.int 1 0 p4) p5) γ σ = some (.bool true, σ) := by
  simp [evE_none, evE_bool, evE_int, evE_str, evE_lv, evE_gi, evE_tup, evE_lst, evE_idx, evE_slc, evE_rev, evE_bin, evE_cmp, evE_and, evE_or, evE_not, evE_neg, evE_ite, evE_call, evE_bcall, evE_meth, evE_comp_no, evE_comp_yes, evE_hook, evE_opq, hg, binV_add, binV_addT, binV_addL, binV_sub, binV_mul, binV_fdiv, binV_mod, binV_pow, cmpV_eq, cmpV_ne, cmpV_lt, cmpV_ge, cmpV_gt, cmpV_is, cmpV_isnot, cmpV_in, cmpV_inS, eqV_tup, eqV_ref, eqV_nt, eqV_tn, eqV_nn, eqV_int, eqV_bool, eqV_str, eq0_int, eq0_bool, eq0_str, h]
theorem modF {C : Cfg} {sc : Sc} {γ : Env1} {σ : Store} {spot : Int} {p1 p2 p3 p4 p5 : Pos} (h : ¬ Int.fmod spot 4 = 1) (hg : γ.lookup 52 = some (.int spot) := by rfl) : evE C sc (.cmp .eq (.bin .mod (.lv 52 p1) (.int 4 0 p2) p3) (.int 1 0 p4) p5) γ σ = some (.bool false, σ) := by
  simp [evE_none, evE_bool, evE_int, evE_str, evE_lv, evE_gi, evE_tup, evE_lst, evE_idx, evE_slc, evE_rev, evE_bin, evE_cmp, evE_and, evE_or, evE_not, evE_neg, evE_ite, evE_call, evE_bcall, evE_meth, evE_comp_no, evE_comp_yes, evE_hook, evE_opq, hg, binV_add, binV_addT, binV_addL, binV_sub, binV_mul, binV_fdiv, binV_mod, binV_pow, cmpV_eq, cmpV_ne, cmpV_lt, cmpV_ge, cmpV_gt, cmpV_is, cmpV_isnot, cmpV_in, cmpV_inS, eqV_tup, eqV_ref, eqV_nt, eqV_tn, eqV_nn, eqV_int, eqV_bool, eqV_str, eq0_int, eq0_bool, eq0_str, h]
noncomputable abbrev Ends (ob : Nat → Option (List Int)) (H : Nat → Nat → Option V) (k : Nat) (ss : ISs) (γ : Env1) (a b : Int) (F G1 : List V) (K : Nat) : Prop :=
  ∃ t a' b' G n g γ', exSs (ndC ob H k) ss γ [[.int a, .int b], F] = some (.ret t, γ', [.int a', .int b'] :: (F ++ G) :: g) ∧ NT ob t (G1 ++ G) n ∧ n ≤ K
theorem way7 {a b spot : Int} {F : List V} {t1 : V} {G1 : List V} {n1 : Nat} (N1 : NT ob t1 G1 n1) (hd : NodeP ob H (k + 3) (d - 1) K) (hF : noRefL F = true) (hl : F.length + K + K ≤ 1000) :
    Ends ob H k (stThen (stAt 6 ndB)) ((24, t1) :: γw d 7 spot) a b F G1 (n1 + K + K + 1) := by
  have hb : (GH ob H).n = 161 := by rfl
  obtain ⟨w1, r1, rfl⟩ := N1.sh
  have t1' := N1.tail
  have l1 := N1.len
  obtain ⟨v, a1, b1, hv, e1⟩ := oneG (ob := ob) (H := H) (k := k) (a := a) (b := b) (F := F) (t := 2) (g := [[.str 94, .str 42, .str 107]]) (by decide) rfl (by simp) (by simp)
  obtain ⟨t2, a2, b2, G2, n2, e2, N2, hn2⟩ := node0 (a := a1) (b := b1) (F := F) (g := [[.str 94, .str 42, .str 107]]) hd hF (by omega)
  obtain ⟨w2, r2, rfl⟩ := N2.sh
  have t2' := N2.tail
  have l2 := N2.len
  obtain ⟨w, rfl, hw⟩ : ∃ w, v = .str w ∧ w ∈ [94, 42, 107] := by
    simp only [List.mem_cons, List.not_mem_nil, or_false] at hv
    rcases hv with rfl | rfl | rfl <;> exact ⟨_, rfl, by decide⟩
  refine ⟨.tup (.str w :: boolV :: [.int spot, .str 6, .tup (.str w1 :: boolV :: r1), .tup (.str w2 :: boolV :: r2)]), a2, b2, G2, n1 + n2 + 1, [[.str 94, .str 42, .str 107]], (77, .tup (.str w2 :: boolV :: r2)) :: (56, .str w) :: (24, .tup (.str w1 :: boolV :: r1)) :: γw d 7 spot, ?_, NT.plain (ch := [.tup (.str w1 :: boolV :: r1), .tup (.str w2 :: boolV :: r2)]) ?_ ?_ (by simp [noRefL, noRef, t1', t2']) (by simp [noRefL, noRef, t1', t2']) (fun H => in_bin w hw) (fun H => chkL2 (N1.chk H) (N2.chk H)) (by rw [noRefL_append, N1.ng, N2.ng]; rfl) (by rw [List.length_append]; omega), by omega⟩
  · exact ss_then (st_asgT (by kernel_rfl) (ev_tup (evs_call e1 (by rfl) (by kernel_rfl) (evs_call e2 (by rfl) (by kernel_rfl) rfl)) (by rfl)) (by kernel_rfl)) (by kernel_rfl)
  · rintro rfl; revert hw; decide
  · rintro rfl; revert hw; decide
theorem way8 {a b spot : Int} {F : List V} {t1 : V} {G1 : List V} {n1 : Nat} (N1 : NT ob t1 G1 n1) (hd : NodeP ob H (k + 3) (d - 1) K) (hF : noRefL F = true) (hl : F.length + K + K ≤ 1000) :
    Ends ob H k (stThen (stAt 7 ndB)) ((24, t1) :: γw d 8 spot) a b F G1 (n1 + K + K + 1) := by
  have hb : (GH ob H).n = 161 := by rfl
  obtain ⟨w1, r1, rfl⟩ := N1.sh
  have t1' := N1.tail
  have l1 := N1.len
  obtain ⟨v, a1, b1, hv, e1⟩ := oneG (ob := ob) (H := H) (k := k) (a := a) (b := b) (F := F) (t := 2) (g := [[.str 69, .str 92]]) (by decide) rfl (by simp) (by simp)
  obtain ⟨t2, a2, b2, G2, n2, e2, N2, hn2⟩ := node0 (a := a1) (b := b1) (F := F) (g := [[.str 69, .str 92]]) hd hF (by omega)
  obtain ⟨w2, r2, rfl⟩ := N2.sh
  have t2' := N2.tail
  have l2 := N2.len
  obtain ⟨w, rfl, hw⟩ : ∃ w, v = .str w ∧ w ∈ [69, 92] := by
    simp only [List.mem_cons, List.not_mem_nil, or_false] at hv
    rcases hv with rfl | rfl <;> exact ⟨_, rfl, by decide⟩
  refine ⟨.tup (.str w :: boolV :: [.int spot, .tup (.str w1 :: boolV :: r1), .tup (.str w2 :: boolV :: r2)]), a2, b2, G2, n1 + n2 + 1, [[.str 69, .str 92]], (77, .tup (.str w2 :: boolV :: r2)) :: (56, .str w) :: (24, .tup (.str w1 :: boolV :: r1)) :: γw d 8 spot, ?_, NT.plain (ch := [.tup (.str w1 :: boolV :: r1), .tup (.str w2 :: boolV :: r2)]) ?_ ?_ (by simp [noRefL, noRef, t1', t2']) (by simp [noRefL, noRef, t1', t2']) (fun H => in_index w hw) (fun H => chkL2 (N1.chk H) (N2.chk H)) (by rw [noRefL_append, N1.ng, N2.ng]; rfl) (by rw [List.length_append]; omega), by omega⟩
  · exact ss_then (st_asgT (by kernel_rfl) (ev_tup (evs_call e1 (by rfl) (by kernel_rfl) (evs_call e2 (by rfl) (by kernel_rfl) rfl)) (by rfl)) (by kernel_rfl)) (by kernel_rfl)
  · rintro rfl; revert hw; decide
  · rintro rfl; revert hw; decide
theorem way12 {a b spot : Int} {F : List V} {t1 : V} {G1 : List V} {n1 : Nat} (N1 : NT ob t1 G1 n1) (hd : NodeP ob H (k + 3) (d - 1) K) (hF : noRefL F = true) (hl : F.length + K + K ≤ 1000) :
    Ends ob H k (stThen (stAt 11 ndB)) ((24, t1) :: γw d 12 spot) a b F G1 (n1 + K + K + 1) := by
  have hb : (GH ob H).n = 161 := by rfl
  obtain ⟨w1, r1, rfl⟩ := N1.sh
  have t1' := N1.tail
  have l1 := N1.len
  obtain ⟨v, a1, b1, hv, e1⟩ := oneG (ob := ob) (H := H) (k := k) (a := a) (b := b) (F := F) (t := 2) (g := [[.str 84, .str 57]]) (by decide) rfl (by simp) (by simp)
  obtain ⟨t2, a2, b2, G2, n2, e2, N2, hn2⟩ := node0 (a := a1) (b := b1) (F := F) (g := [[.str 84, .str 57]]) hd hF (by omega)
  obtain ⟨w2, r2, rfl⟩ := N2.sh
  have t2' := N2.tail
  have l2 := N2.len
  obtain ⟨w, rfl, hw⟩ : ∃ w, v = .str w ∧ w ∈ [84, 57] := by
    simp only [List.mem_cons, List.not_mem_nil, or_false] at hv
    rcases hv with rfl | rfl <;> exact ⟨_, rfl, by decide⟩
  refine ⟨.tup (.str w :: boolV :: [.int spot, .tup [.tup (.str w1 :: boolV :: r1), .tup (.str w2 :: boolV :: r2)]]), a2, b2, G2, n1 + n2 + 1, [[.str 84, .str 57]], (77, .tup (.str w2 :: boolV :: r2)) :: (56, .str w) :: (24, .tup (.str w1 :: boolV :: r1)) :: γw d 12 spot, ?_, NT.plain (ch := [.tup (.str w1 :: boolV :: r1), .tup (.str w2 :: boolV :: r2)]) ?_ ?_ (by simp [noRefL, noRef, t1', t2']) (by simp [noRefL, noRef, t1', t2']) (fun H => in_tuple w hw) (fun H => chkL2 (N1.chk H) (N2.chk H)) (by rw [noRefL_append, N1.ng, N2.ng]; rfl) (by rw [List.length_append]; omega), by omega⟩
  · exact ss_then (st_asgT (by kernel_rfl) (ev_tup (evs_call e1 (by rfl) (by kernel_rfl) (evs_call e2 (by rfl) (by kernel_rfl) rfl)) (by rfl)) (by kernel_rfl)) (by kernel_rfl)
  · rintro rfl; revert hw; decide
  · rintro rfl; revert hw; decide
theorem way9 {a b spot : Int} {F : List V} {t1 : V} {G1 : List V} {n1 : Nat} (N1 : NT ob t1 G1 n1) (hd : NodeP ob H (k + 3) (d - 1) K) (hF : noRefL F = true) (hl : F.length + K + K ≤ 1000) :
    Ends ob H k (stThen (stAt 8 ndB)) ((24, t1) :: γw d 9 spot) a b F G1 (n1 + K + K + 1) := by
  have hb : (GH ob H).n = 161 := by rfl
  obtain ⟨w1, r1, rfl⟩ := N1.sh
  have t1' := N1.tail
  have l1 := N1.len
  obtain ⟨v, a1, b1, hv, e1⟩ := oneG (ob := ob) (H := H) (k := k) (a := a) (b := b) (F := F) (t := 2) (g := [[.str 35, .str 13]]) (by decide) rfl (by simp) (by simp)
  obtain ⟨t2, a2, b2, G2, n2, e2, N2, hn2⟩ := node0 (a := a1) (b := b1) (F := F) (g := [[.str 35, .str 13]]) hd hF (by omega)
  obtain ⟨w2, r2, rfl⟩ := N2.sh
  have t2' := N2.tail
  have l2 := N2.len
  simp only [List.mem_cons, List.not_mem_nil, or_false] at hv
  rcases hv with rfl | rfl
  · refine ⟨.tup (.str 35 :: boolV :: [.int spot, .int 0, .tup [.tup (.str w1 :: boolV :: r1), .tup (.str w2 :: boolV :: r2)]]), a2, b2, G2, n1 + n2 + 1, [[.str 35, .str 13]], (77, .tup (.str w2 :: boolV :: r2)) :: (56, .str 35) :: (24, .tup (.str w1 :: boolV :: r1)) :: γw d 9 spot, ?_, NT.plain (ch := [.tup (.str w1 :: boolV :: r1), .tup (.str w2 :: boolV :: r2)]) (by decide) (by decide) (by simp [noRefL, noRef, t1', t2']) (by simp [noRefL, noRef, t1', t2']) (fun H => in_call) (fun H => chkL2 (N1.chk H) (N2.chk H)) (by rw [noRefL_append, N1.ng, N2.ng]; rfl) (by rw [List.length_append]; omega), by omega⟩
    exact ss_then (st_asgT (by kernel_rfl) (ev_tup (evs_call e1 (by rfl) (by kernel_rfl) (evs_call e2 (by rfl) (by kernel_rfl) rfl)) (by rfl)) (by kernel_rfl)) (by kernel_rfl)
  · refine ⟨.tup (.str 13 :: boolV :: [.int spot, .int 0, .tup [.tup [.int 1, .tup (.str w1 :: boolV :: r1)], .tup [.int 0, .tup (.str w2 :: boolV :: r2)]]]), a2, b2, G2, n1 + n2 + 1, [[.str 35, .str 13]], (77, .tup (.str w2 :: boolV :: r2)) :: (56, .str 13) :: (24, .tup (.str w1 :: boolV :: r1)) :: γw d 9 spot, ?_, NT.plain (ch := [.tup (.str w1 :: boolV :: r1), .tup (.str w2 :: boolV :: r2)]) (by decide) (by decide) (by simp [noRefL, noRef, t1', t2']) (by simp [noRefL, noRef, t1', t2']) (fun H => in_adt) (fun H => chkL2 (N1.chk H) (N2.chk H)) (by rw [noRefL_append, N1.ng, N2.ng]; rfl) (by rw [List.length_append]; omega), by omega⟩
    exact ss_then (st_asgT (by kernel_rfl) (ev_tup (evs_call e1 (by rfl) (by kernel_rfl) (evs_call e2 (by rfl) (by kernel_rfl) rfl)) (by rfl)) (by kernel_rfl)) (by kernel_rfl)
theorem way6 {a b spot : Int} {F : List V} {t1 : V} {G1 : List V} {n1 : Nat} (N1 : NT ob t1 G1 n1) (hd : NodeP ob H (k + 3) (d - 1) K) (hF : noRefL F = true) (hl : F.length + K + K ≤ 1000) :
    Ends ob H k (stThen (stAt 5 ndB)) ((24, t1) :: γw d 6 spot) a b F G1 (n1 + K + K + 1) := by
  have hb : (GH ob H).n = 161 := by rfl
  obtain ⟨w1, r1, rfl⟩ := N1.sh
  have t1' := N1.tail
  have l1 := N1.len
  obtain ⟨t2, a2, b2, G2, n2, e2, N2, hn2⟩ := node0 (a := a) (b := b) (F := F) (g := []) hd hF (by omega)
  obtain ⟨w2, r2, rfl⟩ := N2.sh
  have t2' := N2.tail
  have l2 := N2.len
  by_cases hm : Int.fmod spot 4 = 1
  · obtain ⟨t3, a3, b3, G3, n3, e3, N3, hn3⟩ := node0 (a := a2) (b := b2) (F := F ++ G2) (g := []) hd (by rw [noRefL_append, hF, N2.ng]; rfl) (by simp only [List.length_append]; omega)
    obtain ⟨w3, r3, rfl⟩ := N3.sh
    have t3' := N3.tail
    have l3 := N3.len
    refine ⟨.tup (.str 10 :: boolV :: [.int spot, .tup (.str w1 :: boolV :: r1), .tup (.str w2 :: boolV :: r2), .tup (.str w3 :: boolV :: r3)]), a3, b3, G2 ++ G3, n1 + (n2 + n3) + 1, [], (77, .tup (.str w2 :: boolV :: r2)) :: (24, .tup (.str w1 :: boolV :: r1)) :: γw d 6 spot, ?_, NT.plain (ch := [.tup (.str w1 :: boolV :: r1), .tup (.str w2 :: boolV :: r2), .tup (.str w3 :: boolV :: r3)]) (by decide) (by decide) (by simp [noRefL, noRef, t1', t2', t3']) (by simp [noRefL, noRef, t1', t2', t3']) (fun H => in_if3) (fun H => chkL3 (N1.chk H) (N2.chk H) (N3.chk H)) (by rw [noRefL_append, noRefL_append, N1.ng, N2.ng, N3.ng]; rfl) (by rw [List.length_append, List.length_append]; omega), by omega⟩
    rw [List.append_assoc] at e3
    exact ss_then (st_asg (by kernel_rfl) (ev_call e2 (by rfl) (by kernel_rfl)) (by kernel_rfl)) (ss_ret (ev_tup (evs_pure (by kernel_rfl) (evs_pure (by kernel_rfl) (evs_pure (by kernel_rfl) (evs_pure (by kernel_rfl) (evs_pure (by kernel_rfl) (evs_one (ev_ite (modT hm) (ev_call e3 (by rfl) (by kernel_rfl))))))))) (by rfl)))
  · refine ⟨.tup (.str 10 :: boolV :: [.int spot, .tup (.str w1 :: boolV :: r1), .tup (.str w2 :: boolV :: r2), .none]), a2, b2, G2, n1 + n2 + 1, [], (77, .tup (.str w2 :: boolV :: r2)) :: (24, .tup (.str w1 :: boolV :: r1)) :: γw d 6 spot, ?_, NT.plain (ch := [.tup (.str w1 :: boolV :: r1), .tup (.str w2 :: boolV :: r2)]) (by decide) (by decide) (by simp [noRefL, noRef, t1', t2']) (by simp [noRefL, noRef, t1', t2']) (fun H => in_if2) (fun H => chkL2 (N1.chk H) (N2.chk H)) (by rw [noRefL_append, N1.ng, N2.ng]; rfl) (by rw [List.length_append]; omega), by omega⟩
    exact ss_then (st_asg (by kernel_rfl) (ev_call e2 (by rfl) (by kernel_rfl)) (by kernel_rfl)) (ss_ret (ev_tup (evs_pure (by kernel_rfl) (evs_pure (by kernel_rfl) (evs_pure (by kernel_rfl) (evs_pure (by kernel_rfl) (evs_pure (by kernel_rfl) (evs_one (ev_ite (modF hm) rfl))))))) (by rfl)))
theorem way10 {a b spot : Int} {F : List V} {t1 : V} {G1 : List V} {n1 : Nat} (N1 : NT ob t1 G1 n1) (hd : NodeP ob H (k + 3) (d - 1) K) (hF : noRefL F = true) (hl : F.length + K + K ≤ 1000) :
    Ends ob H k (stThen (stAt 9 ndB)) ((24, t1) :: γw d 10 spot) a b F G1 (n1 + K + K + 1) := by
  have hb : (GH ob H).n = 161 := by rfl
  obtain ⟨w1, r1, rfl⟩ := N1.sh
  have t1' := N1.tail
  have l1 := N1.len
  obtain ⟨v, a1, b1, hv, e1⟩ := oneG (ob := ob) (H := H) (k := k) (a := a) (b := b) (F := F) (t := 4) (g := [[.tup [.str 86, boolV, .int spot, .str 1, .tup (.str w1 :: boolV :: r1)], .tup [.str 95, boolV, .int spot, .str 23, .tup (.str w1 :: boolV :: r1)]], [.tup [.str 45, boolV, .int spot, .int 0, .tup (.str w1 :: boolV :: r1)]], [.tup [.str 86, boolV, .int spot, .str 1, .tup (.str w1 :: boolV :: r1)], .tup [.str 95, boolV, .int spot, .str 23, .tup (.str w1 :: boolV :: r1)], .tup [.str 45, boolV, .int spot, .int 0, .tup (.str w1 :: boolV :: r1)]]]) (by decide) rfl (by simp) (by simp)
  simp only [List.mem_cons, List.not_mem_nil, or_false] at hv
  rcases hv with rfl | rfl | rfl
  · refine ⟨.tup (.str 86 :: boolV :: [.int spot, .str 1, .tup (.str w1 :: boolV :: r1)]), a1, b1, [], n1 + 1, [[.tup [.str 86, boolV, .int spot, .str 1, .tup (.str w1 :: boolV :: r1)], .tup [.str 95, boolV, .int spot, .str 23, .tup (.str w1 :: boolV :: r1)]], [.tup [.str 45, boolV, .int spot, .int 0, .tup (.str w1 :: boolV :: r1)]], [.tup [.str 86, boolV, .int spot, .str 1, .tup (.str w1 :: boolV :: r1)], .tup [.str 95, boolV, .int spot, .str 23, .tup (.str w1 :: boolV :: r1)], .tup [.str 45, boolV, .int spot, .int 0, .tup (.str w1 :: boolV :: r1)]]], (49, .ref 2) :: (24, .tup (.str w1 :: boolV :: r1)) :: γw d 10 spot, ?_, NT.plain (ch := [.tup (.str w1 :: boolV :: r1)]) (by decide) (by decide) (by simp [noRefL, noRef, t1']) (by simp [noRefL, noRef, t1']) (fun H => in_unary) (fun H => by rw [List.append_nil]; exact chkL1 (N1.chk H)) (by rw [List.append_nil]; exact N1.ng) (by rw [List.append_nil]; exact l1), by omega⟩
    rw [List.append_nil]
    exact ss_then (σ1 := [[.int a, .int b], F, [.tup [.str 86, boolV, .int spot, .str 1, .tup (.str w1 :: boolV :: r1)], .tup [.str 95, boolV, .int spot, .str 23, .tup (.str w1 :: boolV :: r1)]]]) (by kernel_rfl) (ss_ret (ev_call e1 (by rfl) (by kernel_rfl)))
  · refine ⟨.tup (.str 95 :: boolV :: [.int spot, .str 23, .tup (.str w1 :: boolV :: r1)]), a1, b1, [], n1 + 1, [[.tup [.str 86, boolV, .int spot, .str 1, .tup (.str w1 :: boolV :: r1)], .tup [.str 95, boolV, .int spot, .str 23, .tup (.str w1 :: boolV :: r1)]], [.tup [.str 45, boolV, .int spot, .int 0, .tup (.str w1 :: boolV :: r1)]], [.tup [.str 86, boolV, .int spot, .str 1, .tup (.str w1 :: boolV :: r1)], .tup [.str 95, boolV, .int spot, .str 23, .tup (.str w1 :: boolV :: r1)], .tup [.str 45, boolV, .int spot, .int 0, .tup (.str w1 :: boolV :: r1)]]], (49, .ref 2) :: (24, .tup (.str w1 :: boolV :: r1)) :: γw d 10 spot, ?_, NT.plain (ch := [.tup (.str w1 :: boolV :: r1)]) (by decide) (by decide) (by simp [noRefL, noRef, t1']) (by simp [noRefL, noRef, t1']) (fun H => in_borrow) (fun H => by rw [List.append_nil]; exact chkL1 (N1.chk H)) (by rw [List.append_nil]; exact N1.ng) (by rw [List.append_nil]; exact l1), by omega⟩
    rw [List.append_nil]
    exact ss_then (σ1 := [[.int a, .int b], F, [.tup [.str 86, boolV, .int spot, .str 1, .tup (.str w1 :: boolV :: r1)], .tup [.str 95, boolV, .int spot, .str 23, .tup (.str w1 :: boolV :: r1)]]]) (by kernel_rfl) (ss_ret (ev_call e1 (by rfl) (by kernel_rfl)))
  · refine ⟨.tup (.str 45 :: boolV :: [.int spot, .int 0, .tup (.str w1 :: boolV :: r1)]), a1, b1, [], n1 + 1, [[.tup [.str 86, boolV, .int spot, .str 1, .tup (.str w1 :: boolV :: r1)], .tup [.str 95, boolV, .int spot, .str 23, .tup (.str w1 :: boolV :: r1)]], [.tup [.str 45, boolV, .int spot, .int 0, .tup (.str w1 :: boolV :: r1)]], [.tup [.str 86, boolV, .int spot, .str 1, .tup (.str w1 :: boolV :: r1)], .tup [.str 95, boolV, .int spot, .str 23, .tup (.str w1 :: boolV :: r1)], .tup [.str 45, boolV, .int spot, .int 0, .tup (.str w1 :: boolV :: r1)]]], (49, .ref 2) :: (24, .tup (.str w1 :: boolV :: r1)) :: γw d 10 spot, ?_, NT.plain (ch := [.tup (.str w1 :: boolV :: r1)]) (by decide) (by decide) (by simp [noRefL, noRef, t1']) (by simp [noRefL, noRef, t1']) (fun H => in_loop) (fun H => by rw [List.append_nil]; exact chkL1 (N1.chk H)) (by rw [List.append_nil]; exact N1.ng) (by rw [List.append_nil]; exact l1), by omega⟩
    rw [List.append_nil]
    exact ss_then (σ1 := [[.int a, .int b], F, [.tup [.str 86, boolV, .int spot, .str 1, .tup (.str w1 :: boolV :: r1)], .tup [.str 95, boolV, .int spot, .str 23, .tup (.str w1 :: boolV :: r1)]]]) (by kernel_rfl) (ss_ret (ev_call e1 (by rfl) (by kernel_rfl)))
theorem way11 {a b spot : Int} {F : List V} {t1 : V} {G1 : List V} {n1 : Nat} (N1 : NT ob t1 G1 n1) (hd : NodeP ob H (k + 3) (d - 1) K) (hF : noRefL F = true) (hl : F.length + K + K ≤ 1000) :
    Ends ob H k (stThen (stAt 10 ndB)) ((24, t1) :: γw d 11 spot) a b F G1 (n1 + K + K + 1) := by
  have hb : (GH ob H).n = 161 := by rfl
  obtain ⟨w1, r1, rfl⟩ := N1.sh
  have t1' := N1.tail
  have l1 := N1.len
  obtain ⟨v, a1, b1, hv, e1⟩ := oneG (ob := ob) (H := H) (k := k) (a := a) (b := b) (F := F) (t := 2) (g := [[.str 61, .str 64, .str 16, .str 36, .str 81, .str 103, .str 101]]) (by decide) rfl (by simp) (by simp)
  obtain ⟨w, rfl, hw⟩ : ∃ w, v = .str w ∧ w ∈ [61, 64, 16, 36, 81, 103, 101] := by
    simp only [List.mem_cons, List.not_mem_nil, or_false] at hv
    rcases hv with rfl | rfl | rfl | rfl | rfl | rfl | rfl <;> exact ⟨_, rfl, by decide⟩
  refine ⟨.tup (.str w :: boolV :: [.int spot, .tup (.str w1 :: boolV :: r1), .int 2]), a1, b1, [], n1 + 1, [[.str 61, .str 64, .str 16, .str 36, .str 81, .str 103, .str 101]], (56, .str w) :: (24, .tup (.str w1 :: boolV :: r1)) :: γw d 11 spot, ?_, NT.plain (ch := [.tup (.str w1 :: boolV :: r1)]) ?_ ?_ (by simp [noRefL, noRef, t1']) (by simp [noRefL, noRef, t1']) (fun H => in_deref w hw) (fun H => by rw [List.append_nil]; exact chkL1 (N1.chk H)) (by rw [List.append_nil]; exact N1.ng) (by rw [List.append_nil]; exact l1), by omega⟩
  · rw [List.append_nil]
    exact ss_then (st_asg (by kernel_rfl) (ev_call e1 (by rfl) (by kernel_rfl)) (by kernel_rfl)) (by kernel_rfl)
  · rintro rfl; revert hw; decide
  · rintro rfl; revert hw; decide
theorem way13 {a b spot : Int} {F : List V} {t1 : V} {G1 : List V} {n1 : Nat} (N1 : NT ob t1 G1 n1) (hd : NodeP ob H (k + 3) (d - 1) K) (hF : noRefL F = true) (hl : F.length + K + K ≤ 1000) :
    Ends ob H k (stThen (stAt 12 ndB)) ((24, t1) :: γw d 13 spot) a b F G1 (n1 + K + K + 1) := by
  have hb : (GH ob H).n = 161 := by rfl
  obtain ⟨w1, r1, rfl⟩ := N1.sh
  have t1' := N1.tail
  have l1 := N1.len
  refine ⟨.tup (.str 59 :: boolV :: [.int spot, .int 0, .tup (.str w1 :: boolV :: r1)]), a, b, [], n1 + 1, [], (24, .tup (.str w1 :: boolV :: r1)) :: γw d 13 spot, ?_, NT.plain (ch := [.tup (.str w1 :: boolV :: r1)]) (by decide) (by decide) (by simp [noRefL, noRef, t1']) (by simp [noRefL, noRef, t1']) (fun H => in_break) (fun H => by rw [List.append_nil]; exact chkL1 (N1.chk H)) (by rw [List.append_nil]; exact N1.ng) (by rw [List.append_nil]; exact l1), by omega⟩
  rw [List.append_nil]
  kernel_rfl
theorem way14 {a b spot : Int} {F : List V} : Ends ob H k (stDrop 13 ndB) ((24, .none) :: γw d 14 spot) a b F [] 1 := by
  have hb : (GH ob H).n = 161 := by rfl
  obtain ⟨v, a1, b1, hv, e1⟩ := oneG (ob := ob) (H := H) (k := k) (a := a) (b := b) (F := F) (t := 2) (g := [[.tup [.str 60, boolV, .int spot, .bool true], .tup [.str 73, boolV, .int spot, .int 0], .tup [.str 59, boolV, .int spot, .int 0, .none]]]) (by decide) rfl (by simp) (by simp)
  simp only [List.mem_cons, List.not_mem_nil, or_false] at hv
  rcases hv with rfl | rfl | rfl
  · refine ⟨.tup (.str 60 :: boolV :: [.int spot, .bool true]), a1, b1, [], 0 + 1, [[.tup [.str 60, boolV, .int spot, .bool true], .tup [.str 73, boolV, .int spot, .int 0], .tup [.str 59, boolV, .int spot, .int 0, .none]]], (24, .none) :: γw d 14 spot, ?_, NT.plain (ch := []) (by decide) (by decide) rfl rfl (fun H => in_const) (fun H => .nil) rfl (Nat.le_refl _), by omega⟩
    rw [List.append_nil]
    exact ss_ret (ev_call e1 (by rfl) (by kernel_rfl))
  · refine ⟨.tup (.str 73 :: boolV :: [.int spot, .int 0]), a1, b1, [], 0 + 1, [[.tup [.str 60, boolV, .int spot, .bool true], .tup [.str 73, boolV, .int spot, .int 0], .tup [.str 59, boolV, .int spot, .int 0, .none]]], (24, .none) :: γw d 14 spot, ?_, NT.plain (ch := []) (by decide) (by decide) rfl rfl (fun H => in_local) (fun H => .nil) rfl (Nat.le_refl _), by omega⟩
    rw [List.append_nil]
    exact ss_ret (ev_call e1 (by rfl) (by kernel_rfl))
  · refine ⟨.tup (.str 59 :: boolV :: [.int spot, .int 0, .none]), a1, b1, [], 0 + 1, [[.tup [.str 60, boolV, .int spot, .bool true], .tup [.str 73, boolV, .int spot, .int 0], .tup [.str 59, boolV, .int spot, .int 0, .none]]], (24, .none) :: γw d 14 spot, ?_, NT.plain (ch := []) (by decide) (by decide) rfl rfl (fun H => in_break0) (fun H => .nil) rfl (Nat.le_refl _), by omega⟩
    rw [List.append_nil]
    exact ss_ret (ev_call e1 (by rfl) (by kernel_rfl))
end
end Mine
end
section
open PySem
set_option maxRecDepth 100000
set_option autoImplicit false
set_option linter.unusedVariables false
set_option linter.unusedSimpArgs false
namespace Mine
section
variable {ob : Nat → Option (List Int)} {H : Nat → Nat → Option V} {k K : Nat} {d : Int}
theorem NT.goodB {n : Nat} {r G ch : List V} {spot : Int} (hr : noRefL r = true) (hch : noRefL ch = true) (hi : ∀ H, innerRun ob H (.tup (.str 58 :: boolV :: r)) = some ch) (hs : ∀ H, letsRun ob H (.tup (.str 58 :: boolV :: r)) = some (.ret .none)) (hc : ∀ H, ChkL ob H ch G n) (hG : noRefL G = true) (hl : G.length ≤ n) : NT ob (.tup (.str 58 :: boolV :: r)) (rowV spot 0 :: G) (n + 1) :=
  ⟨by simp [noRef, noRefL, hr], ⟨_, r, rfl⟩, by simp [noRef, noRefL, hG], by simp only [List.length_cons]; omega, fun H => .good rfl ⟨fun e => absurd e (by decide), fun _ => step_ok (fn := f_check_lets) (by rfl) (by rfl) (by simp [noRef, noRefL, hr]) (hs H), step_inner (by simp [noRef, noRefL, hr]) hch (hi H)⟩ (hc H)⟩
theorem NT.badB {n m w : Nat} {r G ch : List V} {spot : Int} (hr : noRefL r = true) (hs : ∀ H, letsRun ob H (.tup (.str 58 :: boolV :: r)) = some (.exc (.str m) (.int spot))) (hw : WordOf m w) (hc : ∀ H, ChkL ob H ch G n) (hG : noRefL G = true) (hl : G.length ≤ n) : NT ob (.tup (.str 58 :: boolV :: r)) (rowV spot w :: G) (n + 1) :=
  ⟨by simp [noRef, noRefL, hr], ⟨_, r, rfl⟩, by simp [noRef, noRefL, hG], by simp only [List.length_cons]; omega, fun H => .bad rfl (.inr ⟨rfl, step_bad (fn := f_check_lets) (by rfl) (by rfl) (by simp [noRef, noRefL, hr]) rfl rfl (hs H)⟩) hw (hc H)⟩
theorem NT.goodM {n : Nat} {r G ch : List V} {spot : Int} (hr : noRefL r = true) (hch : noRefL ch = true) (hi : ∀ H, innerRun ob H (.tup (.str 74 :: boolV :: r)) = some ch) (hs : ∀ H, armsRun ob H (.tup (.str 74 :: boolV :: r)) = some (.ret .none)) (hc : ∀ H, ChkL ob H ch G n) (hG : noRefL G = true) (hl : G.length ≤ n) : NT ob (.tup (.str 74 :: boolV :: r)) (rowV spot 0 :: G) (n + 1) :=
  ⟨by simp [noRef, noRefL, hr], ⟨_, r, rfl⟩, by simp [noRef, noRefL, hG], by simp only [List.length_cons]; omega, fun H => .good rfl ⟨fun _ => step_ok (fn := f_check_arms) (by rfl) (by rfl) (by simp [noRef, noRefL, hr]) (hs H), fun e => absurd e (by decide), step_inner (by simp [noRef, noRefL, hr]) hch (hi H)⟩ (hc H)⟩
theorem NT.badM {n m w : Nat} {r G ch : List V} {spot : Int} (hr : noRefL r = true) (hs : ∀ H, armsRun ob H (.tup (.str 74 :: boolV :: r)) = some (.exc (.str m) (.int spot))) (hw : WordOf m w) (hc : ∀ H, ChkL ob H ch G n) (hG : noRefL G = true) (hl : G.length ≤ n) : NT ob (.tup (.str 74 :: boolV :: r)) (rowV spot w :: G) (n + 1) :=
  ⟨by simp [noRef, noRefL, hr], ⟨_, r, rfl⟩, by simp [noRef, noRefL, hG], by simp only [List.length_cons]; omega, fun H => .bad rfl (.inl ⟨rfl, step_bad (fn := f_check_arms) (by rfl) (by rfl) (by simp [noRef, noRefL, hr]) rfl rfl (hs H)⟩) hw (hc H)⟩
theorem way4g {a b a0 b0 spot : Int} {F : List V} (hd : NodeP ob H (k + 3) (d - 1) K) (hF : noRefL F = true) (hl : F.length + 1 + K + K + K ≤ 1000) (e0 : RF ob H (k + 3) 117 [.ref 0, .ref 2] ([.int a, .int b] :: F :: [[pEach, pEach, pYes]]) = some (.ret pEach, [.int a0, .int b0] :: F :: [[pEach, pEach, pYes]])) :
    Ends ob H k (stThen (stAt 3 ndB)) (γw d 4 spot) a b F [] (K + K + K + 1) := by
  have hF' : F.length ≤ 1000000 := by omega
  obtain ⟨t1, a1, b1, G1, n1, e1, N1, hn1⟩ := node0 (a := a0) (b := b0) (F := F ++ [rowV spot 0]) (g := [[pEach, pEach, pYes]]) hd (by rw [noRefL_append, hF]; rfl) (by simp only [List.length_append, List.length_cons, List.length_nil]; omega)
  obtain ⟨w1, r1, rfl⟩ := N1.sh
  have t1' := N1.tail
  have l1 := N1.len
  obtain ⟨t2, a2, b2, G2, n2, e2, N2, hn2⟩ := node0 (a := a1) (b := b1) (F := F ++ [rowV spot 0] ++ G1) (g := [[pEach, pEach, pYes]]) hd (by rw [noRefL_append, noRefL_append, hF, N1.ng]; rfl) (by simp only [List.length_append, List.length_cons, List.length_nil]; omega)
  obtain ⟨w2, r2, rfl⟩ := N2.sh
  have t2' := N2.tail
  have l2 := N2.len
  obtain ⟨t3, a3, b3, G3, n3, e3, N3, hn3⟩ := node0 (a := a2) (b := b2) (F := F ++ [rowV spot 0] ++ G1 ++ G2) (g := [[pEach, pEach, pYes]]) hd (by rw [noRefL_append, noRefL_append, noRefL_append, hF, N1.ng, N2.ng]; rfl) (by simp only [List.length_append, List.length_cons, List.length_nil]; omega)
  obtain ⟨w3, r3, rfl⟩ := N3.sh
  have t3' := N3.tail
  have l3 := N3.len
  refine ⟨.tup (.str 58 :: boolV :: [.int (spot + 1), .tup [.tup [.str 20, .int spot, pEach, .tup (.str w1 :: boolV :: r1)], .tup [.str 9, .int spot, .tup (.str w2 :: boolV :: r2)]], .tup (.str w3 :: boolV :: r3)]), a3, b3, rowV spot 0 :: (G1 ++ (G2 ++ G3)), n1 + (n2 + n3) + 1, [[pEach, pEach, pYes]], (72, .tup [.tup [.str 20, .int spot, pEach, .tup (.str w1 :: boolV :: r1)], .tup [.str 9, .int spot, .tup (.str w2 :: boolV :: r2)]]) :: (53, .tup [.str 20, .int spot, pEach, .tup (.str w1 :: boolV :: r1)]) :: (112, pEach) :: γw d 4 spot, ?_, NT.goodB (ch := [.tup (.str w1 :: boolV :: r1), .tup (.str w2 :: boolV :: r2), .tup (.str w3 :: boolV :: r3)]) (by simp [noRefL, noRef, t1', t2', t3']) (by simp [noRefL, noRef, t1', t2', t3']) (fun H => in_B3) (fun H => lets0) (fun H => chkL3 (N1.chk H) (N2.chk H) (N3.chk H)) (by rw [noRefL_append, noRefL_append, N1.ng, N2.ng, N3.ng]; rfl) (by rw [List.length_append, List.length_append]; omega), by omega⟩
  rw [show F ++ rowV spot 0 :: (G1 ++ (G2 ++ G3)) = F ++ [rowV spot 0] ++ G1 ++ G2 ++ G3 by simp only [List.append_assoc, List.cons_append, List.nil_append]]
  exact ss_next (γ1 := (112, pEach) :: γw d 4 spot) (st_asg (by kernel_rfl) (ev_call e0 (by rfl) (by kernel_rfl)) (by kernel_rfl))
    (ss_next (st_append0 (v := rowV spot 0) (by kernel_rfl) (by rfl) (by rfl) hF' (by rfl))
    (ss_next (γ1 := (53, .tup [.str 20, .int spot, pEach, .tup (.str w1 :: boolV :: r1)]) :: (112, pEach) :: γw d 4 spot) (st_asg (v := .tup [.str 20, .int spot, pEach, .tup (.str w1 :: boolV :: r1)]) (by kernel_rfl) (ev_tup (evs_pure (by kernel_rfl) (evs_pure (by kernel_rfl) (evs_pure (by kernel_rfl) (evs_one (ev_call e1 (by rfl) (by kernel_rfl)))))) (by rfl)) (by kernel_rfl))
    (ss_next (γ1 := (72, .tup [.tup [.str 20, .int spot, pEach, .tup (.str w1 :: boolV :: r1)], .tup [.str 9, .int spot, .tup (.str w2 :: boolV :: r2)]]) :: (53, .tup [.str 20, .int spot, pEach, .tup (.str w1 :: boolV :: r1)]) :: (112, pEach) :: γw d 4 spot) (st_asg (v := .tup [.tup [.str 20, .int spot, pEach, .tup (.str w1 :: boolV :: r1)], .tup [.str 9, .int spot, .tup (.str w2 :: boolV :: r2)]]) (by kernel_rfl) (ev_tup (evs_pure (by kernel_rfl) (evs_one (ev_tup (evs_pure (by kernel_rfl) (evs_pure (by kernel_rfl) (evs_one (ev_call e2 (by rfl) (by kernel_rfl))))) (by rfl)))) (by rfl)) (by kernel_rfl))
    (ss_ret (ev_tup (evs_pure (by kernel_rfl) (evs_pure (by kernel_rfl) (evs_pure (by kernel_rfl) (evs_pure (by kernel_rfl) (evs_one (ev_ite (c := true) (by kernel_rfl) (ev_call e3 (by rfl) (by kernel_rfl)))))))) (by rfl))))))
theorem way4b {a b a0 b0 spot : Int} {F : List V} (hd : NodeP ob H (k + 3) (d - 1) K) (hF : noRefL F = true) (hl : F.length + 1 + K + K + K ≤ 1000) (e0 : RF ob H (k + 3) 117 [.ref 0, .ref 2] ([.int a, .int b] :: F :: [[pEach, pEach, pYes]]) = some (.ret pYes, [.int a0, .int b0] :: F :: [[pEach, pEach, pYes]])) :
    Ends ob H k (stThen (stAt 3 ndB)) (γw d 4 spot) a b F [] (K + K + K + 1) := by
  have hF' : F.length ≤ 1000000 := by omega
  obtain ⟨t1, a1, b1, G1, n1, e1, N1, hn1⟩ := node0 (a := a0) (b := b0) (F := F ++ [rowV spot 20]) (g := [[pEach, pEach, pYes]]) hd (by rw [noRefL_append, hF]; rfl) (by simp only [List.length_append, List.length_cons, List.length_nil]; omega)
  obtain ⟨w1, r1, rfl⟩ := N1.sh
  have t1' := N1.tail
  have l1 := N1.len
  obtain ⟨t2, a2, b2, G2, n2, e2, N2, hn2⟩ := node0 (a := a1) (b := b1) (F := F ++ [rowV spot 20] ++ G1) (g := [[pEach, pEach, pYes]]) hd (by rw [noRefL_append, noRefL_append, hF, N1.ng]; rfl) (by simp only [List.length_append, List.length_cons, List.length_nil]; omega)
  obtain ⟨w2, r2, rfl⟩ := N2.sh
  have t2' := N2.tail
  have l2 := N2.len
  obtain ⟨t3, a3, b3, G3, n3, e3, N3, hn3⟩ := node0 (a := a2) (b := b2) (F := F ++ [rowV spot 20] ++ G1 ++ G2) (g := [[pEach, pEach, pYes]]) hd (by rw [noRefL_append, noRefL_append, noRefL_append, hF, N1.ng, N2.ng]; rfl) (by simp only [List.length_append, List.length_cons, List.length_nil]; omega)
  obtain ⟨w3, r3, rfl⟩ := N3.sh
  have t3' := N3.tail
  have l3 := N3.len
  refine ⟨.tup (.str 58 :: boolV :: [.int (spot + 1), .tup [.tup [.str 20, .int spot, pYes, .tup (.str w1 :: boolV :: r1)], .tup [.str 9, .int spot, .tup (.str w2 :: boolV :: r2)]], .tup (.str w3 :: boolV :: r3)]), a3, b3, rowV spot 20 :: (G1 ++ (G2 ++ G3)), n1 + (n2 + n3) + 1, [[pEach, pEach, pYes]], (72, .tup [.tup [.str 20, .int spot, pYes, .tup (.str w1 :: boolV :: r1)], .tup [.str 9, .int spot, .tup (.str w2 :: boolV :: r2)]]) :: (53, .tup [.str 20, .int spot, pYes, .tup (.str w1 :: boolV :: r1)]) :: (112, pYes) :: γw d 4 spot, ?_, NT.badB (m := 159) (ch := [.tup (.str w1 :: boolV :: r1), .tup (.str w2 :: boolV :: r2), .tup (.str w3 :: boolV :: r3)]) (by simp [noRefL, noRef, t1', t2', t3']) (fun H => lets1) (.inr (.inr ⟨rfl, rfl⟩)) (fun H => chkL3 (N1.chk H) (N2.chk H) (N3.chk H)) (by rw [noRefL_append, noRefL_append, N1.ng, N2.ng, N3.ng]; rfl) (by rw [List.length_append, List.length_append]; omega), by omega⟩
  rw [show F ++ rowV spot 20 :: (G1 ++ (G2 ++ G3)) = F ++ [rowV spot 20] ++ G1 ++ G2 ++ G3 by simp only [List.append_assoc, List.cons_append, List.nil_append]]
  exact ss_next (γ1 := (112, pYes) :: γw d 4 spot) (st_asg (by kernel_rfl) (ev_call e0 (by rfl) (by kernel_rfl)) (by kernel_rfl))
    (ss_next (st_append0 (v := rowV spot 20) (by kernel_rfl) (by rfl) (by rfl) hF' (by rfl))
    (ss_next (γ1 := (53, .tup [.str 20, .int spot, pYes, .tup (.str w1 :: boolV :: r1)]) :: (112, pYes) :: γw d 4 spot) (st_asg (v := .tup [.str 20, .int spot, pYes, .tup (.str w1 :: boolV :: r1)]) (by kernel_rfl) (ev_tup (evs_pure (by kernel_rfl) (evs_pure (by kernel_rfl) (evs_pure (by kernel_rfl) (evs_one (ev_call e1 (by rfl) (by kernel_rfl)))))) (by rfl)) (by kernel_rfl))
    (ss_next (γ1 := (72, .tup [.tup [.str 20, .int spot, pYes, .tup (.str w1 :: boolV :: r1)], .tup [.str 9, .int spot, .tup (.str w2 :: boolV :: r2)]]) :: (53, .tup [.str 20, .int spot, pYes, .tup (.str w1 :: boolV :: r1)]) :: (112, pYes) :: γw d 4 spot) (st_asg (v := .tup [.tup [.str 20, .int spot, pYes, .tup (.str w1 :: boolV :: r1)], .tup [.str 9, .int spot, .tup (.str w2 :: boolV :: r2)]]) (by kernel_rfl) (ev_tup (evs_pure (by kernel_rfl) (evs_one (ev_tup (evs_pure (by kernel_rfl) (evs_pure (by kernel_rfl) (evs_one (ev_call e2 (by rfl) (by kernel_rfl))))) (by rfl)))) (by rfl)) (by kernel_rfl))
    (ss_ret (ev_tup (evs_pure (by kernel_rfl) (evs_pure (by kernel_rfl) (evs_pure (by kernel_rfl) (evs_pure (by kernel_rfl) (evs_one (ev_ite (c := true) (by kernel_rfl) (ev_call e3 (by rfl) (by kernel_rfl)))))))) (by rfl))))))
theorem way5g {a b a0 b0 spot : Int} {F : List V} (hd : NodeP ob H (k + 3) (d - 1) K) (hF : noRefL F = true) (hl : F.length + 1 + K + K + K ≤ 1000) (e0 : RF ob H (k + 3) 117 [.ref 0, .ref 2] ([.int a, .int b] :: F :: [[pEach, pEach, pYes]]) = some (.ret pEach, [.int a0, .int b0] :: F :: [[pEach, pEach, pYes]])) :
    Ends ob H k (stThen (stAt 3 ndB)) (γw d 5 spot) a b F [] (K + K + K + 1) := by
  have hF' : F.length ≤ 1000000 := by omega
  obtain ⟨t1, a1, b1, G1, n1, e1, N1, hn1⟩ := node0 (a := a0) (b := b0) (F := F ++ [rowV spot 0]) (g := [[pEach, pEach, pYes]]) hd (by rw [noRefL_append, hF]; rfl) (by simp only [List.length_append, List.length_cons, List.length_nil]; omega)
  obtain ⟨w1, r1, rfl⟩ := N1.sh
  have t1' := N1.tail
  have l1 := N1.len
  obtain ⟨t2, a2, b2, G2, n2, e2, N2, hn2⟩ := node0 (a := a1) (b := b1) (F := F ++ [rowV spot 0] ++ G1) (g := [[pEach, pEach, pYes]]) hd (by rw [noRefL_append, noRefL_append, hF, N1.ng]; rfl) (by simp only [List.length_append, List.length_cons, List.length_nil]; omega)
  obtain ⟨w2, r2, rfl⟩ := N2.sh
  have t2' := N2.tail
  have l2 := N2.len
  refine ⟨.tup (.str 58 :: boolV :: [.int (spot + 1), .tup [.tup [.str 20, .int spot, pEach, .tup (.str w1 :: boolV :: r1)], .tup [.str 9, .int spot, .tup (.str w2 :: boolV :: r2)]], .none]), a2, b2, rowV spot 0 :: (G1 ++ G2), n1 + n2 + 1, [[pEach, pEach, pYes]], (72, .tup [.tup [.str 20, .int spot, pEach, .tup (.str w1 :: boolV :: r1)], .tup [.str 9, .int spot, .tup (.str w2 :: boolV :: r2)]]) :: (53, .tup [.str 20, .int spot, pEach, .tup (.str w1 :: boolV :: r1)]) :: (112, pEach) :: γw d 5 spot, ?_, NT.goodB (ch := [.tup (.str w1 :: boolV :: r1), .tup (.str w2 :: boolV :: r2)]) (by simp [noRefL, noRef, t1', t2']) (by simp [noRefL, noRef, t1', t2']) (fun H => in_B2) (fun H => lets0) (fun H => chkL2 (N1.chk H) (N2.chk H)) (by rw [noRefL_append, N1.ng, N2.ng]; rfl) (by rw [List.length_append]; omega), by omega⟩
  rw [show F ++ rowV spot 0 :: (G1 ++ G2) = F ++ [rowV spot 0] ++ G1 ++ G2 by simp only [List.append_assoc, List.cons_append, List.nil_append]]
  exact ss_next (γ1 := (112, pEach) :: γw d 5 spot) (st_asg (by kernel_rfl) (ev_call e0 (by rfl) (by kernel_rfl)) (by kernel_rfl))
    (ss_next (st_append0 (v := rowV spot 0) (by kernel_rfl) (by rfl) (by rfl) hF' (by rfl))
    (ss_next (γ1 := (53, .tup [.str 20, .int spot, pEach, .tup (.str w1 :: boolV :: r1)]) :: (112, pEach) :: γw d 5 spot) (st_asg (v := .tup [.str 20, .int spot, pEach, .tup (.str w1 :: boolV :: r1)]) (by kernel_rfl) (ev_tup (evs_pure (by kernel_rfl) (evs_pure (by kernel_rfl) (evs_pure (by kernel_rfl) (evs_one (ev_call e1 (by rfl) (by kernel_rfl)))))) (by rfl)) (by kernel_rfl))
    (ss_next (γ1 := (72, .tup [.tup [.str 20, .int spot, pEach, .tup (.str w1 :: boolV :: r1)], .tup [.str 9, .int spot, .tup (.str w2 :: boolV :: r2)]]) :: (53, .tup [.str 20, .int spot, pEach, .tup (.str w1 :: boolV :: r1)]) :: (112, pEach) :: γw d 5 spot) (st_asg (v := .tup [.tup [.str 20, .int spot, pEach, .tup (.str w1 :: boolV :: r1)], .tup [.str 9, .int spot, .tup (.str w2 :: boolV :: r2)]]) (by kernel_rfl) (ev_tup (evs_pure (by kernel_rfl) (evs_one (ev_tup (evs_pure (by kernel_rfl) (evs_pure (by kernel_rfl) (evs_one (ev_call e2 (by rfl) (by kernel_rfl))))) (by rfl)))) (by rfl)) (by kernel_rfl))
    (ss_ret (ev_tup (evs_pure (by kernel_rfl) (evs_pure (by kernel_rfl) (evs_pure (by kernel_rfl) (evs_pure (by kernel_rfl) (evs_one (ev_ite (c := false) (by kernel_rfl) rfl)))))) (by rfl))))))
theorem way5b {a b a0 b0 spot : Int} {F : List V} (hd : NodeP ob H (k + 3) (d - 1) K) (hF : noRefL F = true) (hl : F.length + 1 + K + K + K ≤ 1000) (e0 : RF ob H (k + 3) 117 [.ref 0, .ref 2] ([.int a, .int b] :: F :: [[pEach, pEach, pYes]]) = some (.ret pYes, [.int a0, .int b0] :: F :: [[pEach, pEach, pYes]])) :
    Ends ob H k (stThen (stAt 3 ndB)) (γw d 5 spot) a b F [] (K + K + K + 1) := by
  have hF' : F.length ≤ 1000000 := by omega
  obtain ⟨t1, a1, b1, G1, n1, e1, N1, hn1⟩ := node0 (a := a0) (b := b0) (F := F ++ [rowV spot 20]) (g := [[pEach, pEach, pYes]]) hd (by rw [noRefL_append, hF]; rfl) (by simp only [List.length_append, List.length_cons, List.length_nil]; omega)
  obtain ⟨w1, r1, rfl⟩ := N1.sh
  have t1' := N1.tail
  have l1 := N1.len
  obtain ⟨t2, a2, b2, G2, n2, e2, N2, hn2⟩ := node0 (a := a1) (b := b1) (F := F ++ [rowV spot 20] ++ G1) (g := [[pEach, pEach, pYes]]) hd (by rw [noRefL_append, noRefL_append, hF, N1.ng]; rfl) (by simp only [List.length_append, List.length_cons, List.length_nil]; omega)
  obtain ⟨w2, r2, rfl⟩ := N2.sh
  have t2' := N2.tail
  have l2 := N2.len
  refine ⟨.tup (.str 58 :: boolV :: [.int (spot + 1), .tup [.tup [.str 20, .int spot, pYes, .tup (.str w1 :: boolV :: r1)], .tup [.str 9, .int spot, .tup (.str w2 :: boolV :: r2)]], .none]), a2, b2, rowV spot 20 :: (G1 ++ G2), n1 + n2 + 1, [[pEach, pEach, pYes]], (72, .tup [.tup [.str 20, .int spot, pYes, .tup (.str w1 :: boolV :: r1)], .tup [.str 9, .int spot, .tup (.str w2 :: boolV :: r2)]]) :: (53, .tup [.str 20, .int spot, pYes, .tup (.str w1 :: boolV :: r1)]) :: (112, pYes) :: γw d 5 spot, ?_, NT.badB (m := 159) (ch := [.tup (.str w1 :: boolV :: r1), .tup (.str w2 :: boolV :: r2)]) (by simp [noRefL, noRef, t1', t2']) (fun H => lets1) (.inr (.inr ⟨rfl, rfl⟩)) (fun H => chkL2 (N1.chk H) (N2.chk H)) (by rw [noRefL_append, N1.ng, N2.ng]; rfl) (by rw [List.length_append]; omega), by omega⟩
  rw [show F ++ rowV spot 20 :: (G1 ++ G2) = F ++ [rowV spot 20] ++ G1 ++ G2 by simp only [List.append_assoc, List.cons_append, List.nil_append]]
  exact ss_next (γ1 := (112, pYes) :: γw d 5 spot) (st_asg (by kernel_rfl) (ev_call e0 (by rfl) (by kernel_rfl)) (by kernel_rfl))
    (ss_next (st_append0 (v := rowV spot 20) (by kernel_rfl) (by rfl) (by rfl) hF' (by rfl))
    (ss_next (γ1 := (53, .tup [.str 20, .int spot, pYes, .tup (.str w1 :: boolV :: r1)]) :: (112, pYes) :: γw d 5 spot) (st_asg (v := .tup [.str 20, .int spot, pYes, .tup (.str w1 :: boolV :: r1)]) (by kernel_rfl) (ev_tup (evs_pure (by kernel_rfl) (evs_pure (by kernel_rfl) (evs_pure (by kernel_rfl) (evs_one (ev_call e1 (by rfl) (by kernel_rfl)))))) (by rfl)) (by kernel_rfl))
    (ss_next (γ1 := (72, .tup [.tup [.str 20, .int spot, pYes, .tup (.str w1 :: boolV :: r1)], .tup [.str 9, .int spot, .tup (.str w2 :: boolV :: r2)]]) :: (53, .tup [.str 20, .int spot, pYes, .tup (.str w1 :: boolV :: r1)]) :: (112, pYes) :: γw d 5 spot) (st_asg (v := .tup [.tup [.str 20, .int spot, pYes, .tup (.str w1 :: boolV :: r1)], .tup [.str 9, .int spot, .tup (.str w2 :: boolV :: r2)]]) (by kernel_rfl) (ev_tup (evs_pure (by kernel_rfl) (evs_one (ev_tup (evs_pure (by kernel_rfl) (evs_pure (by kernel_rfl) (evs_one (ev_call e2 (by rfl) (by kernel_rfl))))) (by rfl)))) (by rfl)) (by kernel_rfl))
    (ss_ret (ev_tup (evs_pure (by kernel_rfl) (evs_pure (by kernel_rfl) (evs_pure (by kernel_rfl) (evs_pure (by kernel_rfl) (evs_one (ev_ite (c := false) (by kernel_rfl) rfl)))))) (by rfl))))))
theorem wayB {a b spot w : Int} {F : List V} (hw : w = 4 ∨ w = 5) (hd : NodeP ob H (k + 3) (d - 1) K) (hF : noRefL F = true) (hl : F.length + 1 + K + K + K ≤ 1000) :
    Ends ob H k (stThen (stAt 3 ndB)) (γw d w spot) a b F [] (K + K + K + 1) := by
  obtain ⟨v, a0, b0, hv, e0⟩ := oneG (ob := ob) (H := H) (k := k) (a := a) (b := b) (F := F) (t := 2) (g := [[pEach, pEach, pYes]]) (by decide) rfl (by simp) (by simp)
  simp only [List.mem_cons, List.not_mem_nil, or_false] at hv
  rcases hw with rfl | rfl
  · rcases hv with rfl | rfl | rfl
    · exact way4g hd hF hl e0
    · exact way4g hd hF hl e0
    · exact way4b hd hF hl e0
  · rcases hv with rfl | rfl | rfl
    · exact way5g hd hF hl e0
    · exact way5g hd hF hl e0
    · exact way5b hd hF hl e0
end
end Mine
end
section
open PySem
set_option maxRecDepth 100000
set_option autoImplicit false
set_option linter.unusedVariables false
set_option linter.unusedSimpArgs false
namespace Mine
noncomputable def armRow (n : Nat) (w : Nat) : V := .tup [.ref n, .str w]
noncomputable def armsFrom (s : Nat) : Store :=
  [[.tup [pYes, .int 0], .tup [pNo, .int 0]], [.tup [pEach, .int 0]], [.tup [pNo, .int 0], .tup [pEach, .int 0]], [.tup [pEach, .int 1], .tup [pEach, .int 0]],
   [armRow s 0, armRow (s + 1) 0, armRow (s + 2) 0, armRow (s + 3) 0],
   [.tup [pYes, .int 1], .tup [pYes, .int 0], .tup [pNo, .int 0]], [.tup [pYes, .int 0]], [.tup [pYes, .int 1], .tup [pNo, .int 0]],
   [armRow (s + 5) 0, armRow (s + 6) 97, armRow (s + 7) 97],
   [armRow s 0, armRow (s + 1) 0, armRow (s + 2) 0, armRow (s + 3) 0, armRow (s + 5) 0, armRow (s + 6) 97, armRow (s + 7) 97],
   [.tup [pEach, .int 1]], [.tup [pEach, .int 0], .tup [pNo, .int 0]],
   [armRow (s + 10) 97, armRow (s + 11) 124],
   [armRow s 0, armRow (s + 1) 0, armRow (s + 2) 0, armRow (s + 3) 0, armRow (s + 5) 0, armRow (s + 6) 97, armRow (s + 7) 97, armRow (s + 10) 97, armRow (s + 11) 124],
   [.tup [pYes, .int 0], .tup [pNo, .int 0], .tup [pEach, .int 1]],
   [armRow (s + 14) 124],
   [armRow s 0, armRow (s + 1) 0, armRow (s + 2) 0, armRow (s + 3) 0, armRow (s + 5) 0, armRow (s + 6) 97, armRow (s + 7) 97, armRow (s + 10) 97, armRow (s + 11) 124, armRow (s + 14) 124],
   [.tup [pYes, .int 0], .tup [pYes, .int 1]],
   [armRow (s + 17) 97],
   [armRow s 0, armRow (s + 1) 0, armRow (s + 2) 0, armRow (s + 3) 0, armRow (s + 5) 0, armRow (s + 6) 97, armRow (s + 7) 97, armRow (s + 10) 97, armRow (s + 11) 124, armRow (s + 14) 124, armRow (s + 17) 97]]
noncomputable def goodRows : List V := [armRow 22 0, armRow 23 0, armRow 24 0, armRow 25 0, armRow 27 0]
noncomputable def allRows : List V := [armRow 2 0, armRow 3 0, armRow 4 0, armRow 5 0, armRow 7 0, armRow 8 97, armRow 9 97, armRow 12 97, armRow 13 124, armRow 16 124, armRow 19 97] ++ (goodRows ++ goodRows ++ goodRows)
noncomputable def garb : Store := armsFrom 2 ++ armsFrom 22 ++ [goodRows, goodRows ++ goodRows ++ goodRows, allRows]
noncomputable def mArgs : IEs := match stThen (stAt 2 ndB) with
  | .cons (.asgT _ _ _ (.call _ _ es _) _) _ => es
  | _ => .nil
section
variable {ob : Nat → Option (List Int)} {H : Nat → Nat → Option V} {k K : Nat} {d : Int}
theorem margs {w spot : Int} {x y : List V} : evEs (ndC ob H k) f_law_node.sc mArgs (γw d w spot) [x, y] = some ([.ref 0, .ref 44], x :: y :: garb) := by kernel_rfl
/-- the arms of a row, and its word -/
noncomputable def armTab : List (List (V × Bool) × Nat) :=
  [([(pYes, false), (pNo, false)], 0), ([(pEach, false)], 0), ([(pNo, false), (pEach, false)], 0), ([(pEach, true), (pEach, false)], 0),
   ([(pYes, true), (pYes, false), (pNo, false)], 0), ([(pYes, false)], 97), ([(pYes, true), (pNo, false)], 97), ([(pEach, true)], 97), ([(pEach, false), (pNo, false)], 124),
   ([(pYes, false), (pNo, false), (pEach, true)], 124), ([(pYes, false), (pYes, true)], 97)]
noncomputable def armItem (q : V × Bool) : V := .tup [q.1, .int (if q.2 then 1 else 0)]
theorem pickArm {v : V} (hv : v ∈ allRows) : ∃ r w B, v = armRow r w ∧ garb[r - 2]? = some (B.map armItem) ∧ 2 ≤ r ∧ r < 45 ∧ (B, w) ∈ armTab := by
  have pk : ∀ (i r w : Nat), v = armRow r w → ∀ B, garb[r - 2]? = some (B.map armItem) → 2 ≤ r → r < 45 → armTab[i]? = some (B, w) → ∃ r w B, v = armRow r w ∧ garb[r - 2]? = some (B.map armItem) ∧ 2 ≤ r ∧ r < 45 ∧ (B, w) ∈ armTab :=
    fun i r w e B h1 h2 h3 h4 => ⟨r, w, B, e, h1, h2, h3, List.mem_of_getElem? h4⟩
  simp only [allRows, goodRows, List.mem_append, List.mem_cons, List.not_mem_nil, or_false] at hv
  rcases hv with (h | h | h | h | h | h | h | h | h | h | h) | ((h | h | h | h | h) | (h | h | h | h | h)) | (h | h | h | h | h)
  · exact pk 0 2 _ h _ rfl (by decide) (by decide) rfl
  · exact pk 1 3 _ h _ rfl (by decide) (by decide) rfl
  · exact pk 2 4 _ h _ rfl (by decide) (by decide) rfl
  · exact pk 3 5 _ h _ rfl (by decide) (by decide) rfl
  · exact pk 4 7 _ h _ rfl (by decide) (by decide) rfl
  · exact pk 5 8 _ h _ rfl (by decide) (by decide) rfl
  · exact pk 6 9 _ h _ rfl (by decide) (by decide) rfl
  · exact pk 7 12 _ h _ rfl (by decide) (by decide) rfl
  · exact pk 8 13 _ h _ rfl (by decide) (by decide) rfl
  · exact pk 9 16 _ h _ rfl (by decide) (by decide) rfl
  · exact pk 10 19 _ h _ rfl (by decide) (by decide) rfl
  · exact pk 0 22 _ h _ rfl (by decide) (by decide) rfl
  · exact pk 1 23 _ h _ rfl (by decide) (by decide) rfl
  · exact pk 2 24 _ h _ rfl (by decide) (by decide) rfl
  · exact pk 3 25 _ h _ rfl (by decide) (by decide) rfl
  · exact pk 4 27 _ h _ rfl (by decide) (by decide) rfl
  · exact pk 0 22 _ h _ rfl (by decide) (by decide) rfl
  · exact pk 1 23 _ h _ rfl (by decide) (by decide) rfl
  · exact pk 2 24 _ h _ rfl (by decide) (by decide) rfl
  · exact pk 3 25 _ h _ rfl (by decide) (by decide) rfl
  · exact pk 4 27 _ h _ rfl (by decide) (by decide) rfl
  · exact pk 0 22 _ h _ rfl (by decide) (by decide) rfl
  · exact pk 1 23 _ h _ rfl (by decide) (by decide) rfl
  · exact pk 2 24 _ h _ rfl (by decide) (by decide) rfl
  · exact pk 3 25 _ h _ rfl (by decide) (by decide) rfl
  · exact pk 4 27 _ h _ rfl (by decide) (by decide) rfl
end
end Mine
end
section
open PySem
set_option maxRecDepth 100000
set_option autoImplicit false
set_option linter.unusedVariables false
set_option linter.unusedSimpArgs false
namespace Mine
noncomputable abbrev mB : ISs := stThen (stAt 2 ndB)
noncomputable def forT : IS → Tgt
  | .forS t _ _ _ => t
  | _ => .one 0 ⟨0, 0, 0, 0⟩
noncomputable def forB : IS → ISs
  | .forS _ _ b _ => b
  | _ => .nil
noncomputable abbrev lpB : ISs := forB (stAt 3 mB)
noncomputable abbrev lpT : Tgt := forT (stAt 3 mB)
/-- the names that the loop over the arms leaves alone -/
structure LE (d spot : Int) (R : Nat) (v0 : V) (γ : Env1) : Prop where
  source : γ.lookup 105 = some (.ref 0)
  deep : γ.lookup 38 = some (.int d)
  found : γ.lookup 66 = some (.ref 1)
  rows : γ.lookup 49 = some (.ref R)
  value : γ.lookup 87 = some v0
  sort : γ.lookup 51 = some boolV
  spot : γ.lookup 52 = some (.int spot)
noncomputable def fl (x : Nat) (γ : Env1) : Env1 := γ.filter fun q => !(Nat.beq q.1 x)
theorem LE.put {d spot : Int} {R x : Nat} {v0 v : V} {γ : Env1} (h : LE d spot R v0 γ) (hx : x = 112 ∨ x = 138 ∨ x = 67) : LE d spot R v0 ((x, v) :: fl x γ) := by
  obtain ⟨a1, a2, a3, a4, a5, a6, a7⟩ := h
  have g : ∀ y w, y ≠ 112 → y ≠ 138 → y ≠ 67 → γ.lookup y = some w → List.lookup y ((x, v) :: fl x γ) = some w := by
    intro y w h1 h2 h3 h
    have hne : x ≠ y := by rintro rfl; rcases hx with e | e | e <;> contradiction
    rw [List.lookup_cons, show (y == x) = false from by simp; exact fun e => hne e.symm]
    show (fl x γ).lookup y = _
    unfold fl
    rw [lookup_filter hne]
    exact h
  exact ⟨g _ _ (by decide) (by decide) (by decide) a1, g _ _ (by decide) (by decide) (by decide) a2, g _ _ (by decide) (by decide) (by decide) a3, g _ _ (by decide) (by decide) (by decide) a4, g _ _ (by decide) (by decide) (by decide) a5, g _ _ (by decide) (by decide) (by decide) a6, g _ _ (by decide) (by decide) (by decide) a7⟩
theorem look_put {x y : Nat} {v w : V} {γ : Env1} (hne : x ≠ y) (h : γ.lookup y = some w) : List.lookup y ((x, v) :: fl x γ) = some w := by
  rw [List.lookup_cons, show (y == x) = false from by simp; exact fun e => hne e.symm]
  show (fl x γ).lookup y = _
  unfold fl
  rw [lookup_filter hne]
  exact h
section
variable {ob : Nat → Option (List Int)} {H : Nat → Nat → Option V} {k K R : Nat} {d spot : Int} {v0 : V} {γ : Env1}
theorem bindArm {p : V} {i : Int} : bindT f_law_node.sc lpT (.tup [p, .int i]) γ = some ((138, .int i) :: fl 138 ((112, p) :: fl 112 γ)) := by
  kernel_rfl
theorem armA0 {σ : Store} (h : γ.lookup 138 = some (.int 0)) : exS (ndC ob H k) (stAt 0 lpB) γ σ = some (.next, (67, .none) :: fl 67 γ, σ) := by
  exact st_asg (v := .none) (by kernel_rfl) (ev_iteV (c := false) (lv_at h) rfl rfl) (by kernel_rfl)
theorem armA1 {a b : Int} {F : List V} {g : Store} (L : LE d spot R v0 γ) (hd : NodeP ob H (k + 3) (d - 1) K) (hF : noRefL F = true) (hl : F.length + K ≤ 1000) (h : γ.lookup 138 = some (.int 1)) :
    ∃ t a' b' G n, exS (ndC ob H k) (stAt 0 lpB) γ ([.int a, .int b] :: F :: g) = some (.next, (67, t) :: fl 67 γ, [.int a', .int b'] :: (F ++ G) :: g) ∧ NT ob t G n ∧ n ≤ K := by
  obtain ⟨t, a', b', G, n, e, N, hn⟩ := node0 (a := a) (b := b) (g := g) hd hF hl
  refine ⟨t, a', b', G, n, ?_, N, hn⟩
  exact st_asg (v := t) (by kernel_rfl) (ev_iteV (c := true) (lv_at h) rfl (ev_call e (by rfl) (evs_pure (lv_at L.source) (evs_pure (ev_bin (lv_at L.deep) rfl rfl) (evs_one (lv_at L.found)))))) (by kernel_rfl)
theorem armB {a b : Int} {F rows : List V} {g : Store} {p q : V} (hR : R = g.length + 2) (L : LE d spot R v0 γ) (hd : NodeP ob H (k + 3) (d - 2) K) (hF : noRefL F = true) (hl : F.length + K ≤ 1000) (hr : rows.length ≤ 1000) (hp : γ.lookup 112 = some p) (hq : γ.lookup 67 = some q) :
    ∃ t a' b' G n, exS (ndC ob H k) (stAt 1 lpB) γ ([.int a, .int b] :: F :: (g ++ [rows])) = some (.next, γ, [.int a', .int b'] :: (F ++ G) :: (g ++ [rows ++ [.tup [p, q, t]]])) ∧ NT ob t G n ∧ n ≤ K := by
  obtain ⟨t, a', b', G, n, e, N, hn⟩ := node0 (a := a) (b := b) (g := g ++ [rows]) hd hF hl
  refine ⟨t, a', b', G, n, ?_, N, hn⟩
  have h1 : ∀ x F : List V, (x :: F :: (g ++ [rows]))[R]? = some rows := by intro x F; subst hR; simp
  have h2 : ∀ (x F v : List V), (x :: F :: (g ++ [rows])).set R v = x :: F :: (g ++ [v]) := by intro x F v; subst hR; simp
  have hr' : rows.length ≤ 1000000 := by omega
  exact (st_append (v := .tup [p, q, t]) (ev_tup (evs_pure (lv_at hp) (evs_pure (lv_at hq) (evs_one (ev_call e (by rfl) (evs_pure (lv_at L.source) (evs_pure (ev_bin (lv_at L.deep) rfl rfl) (evs_one (lv_at L.found)))))))) (by rfl)) L.rows (h1 _ _) hr' (by rfl)).trans (by rw [h2])
theorem lpB_eq : lpB = .cons (stAt 0 lpB) (.cons (stAt 1 lpB) .nil) := by rfl
noncomputable abbrev lpF (ob : Nat → Option (List Int)) (H : Nat → Nat → Option V) (k : Nat) : V → Env1 → Store → ExR := fun x γ₁ σ₁ => (bindT (ndC ob H k).sc lpT x γ₁).bind fun γ' => exSs (ndC ob H k) lpB γ' σ₁
theorem self_lookup {x : Nat} {v : V} {r : Env1} : List.lookup x ((x, v) :: r) = some v := by simp [List.lookup]
theorem iterN {a b : Int} {F rows : List V} {g : Store} {p : V} (hR : R = g.length + 2) (L : LE d spot R v0 γ) (hd : NodeP ob H (k + 3) (d - 2) K) (hF : noRefL F = true) (hl : F.length + K ≤ 1000) (hr : rows.length ≤ 1000) :
    ∃ γ' t a' b' G n, lpF ob H k (.tup [p, .int 0]) γ ([.int a, .int b] :: F :: (g ++ [rows])) = some (.next, γ', [.int a', .int b'] :: (F ++ G) :: (g ++ [rows ++ [.tup [p, .none, t]]])) ∧ LE d spot R v0 γ' ∧ NT ob t G n ∧ n ≤ K := by
  have hA := armA0 (ob := ob) (H := H) (k := k) (γ := (138, .int 0) :: fl 138 ((112, p) :: fl 112 γ)) (σ := [.int a, .int b] :: F :: (g ++ [rows])) self_lookup
  have L2 := ((L.put (v := p) (.inl rfl)).put (v := .int 0) (.inr (.inl rfl))).put (v := .none) (.inr (.inr rfl))
  obtain ⟨t, a', b', G, n, hB, N, hn⟩ := armB (ob := ob) (H := H) (a := a) (b := b) (rows := rows) (p := p) (q := .none) hR L2 hd hF hl hr (look_put (by decide) (look_put (by decide) self_lookup)) self_lookup
  refine ⟨_, t, a', b', G, n, ?_, L2, N, hn⟩
  show (bindT f_law_node.sc lpT (.tup [p, .int 0]) γ).bind _ = _
  rw [bindArm, Option.bind_some, lpB_eq, exSs_next hA, exSs_next hB]
  rfl
theorem iterG {a b : Int} {F rows : List V} {g : Store} {p : V} (hR : R = g.length + 2) (L : LE d spot R v0 γ) (hd1 : NodeP ob H (k + 3) (d - 1) K) (hd : NodeP ob H (k + 3) (d - 2) K) (hF : noRefL F = true) (hl : F.length + K + K ≤ 1000) (hr : rows.length ≤ 1000) :
    ∃ γ' u t a' b' G n G' n', lpF ob H k (.tup [p, .int 1]) γ ([.int a, .int b] :: F :: (g ++ [rows])) = some (.next, γ', [.int a', .int b'] :: (F ++ (G ++ G')) :: (g ++ [rows ++ [.tup [p, u, t]]])) ∧ LE d spot R v0 γ' ∧ NT ob u G n ∧ n ≤ K ∧ NT ob t G' n' ∧ n' ≤ K := by
  obtain ⟨u, a1, b1, G, n, hA, N, hn⟩ := armA1 (ob := ob) (H := H) (k := k) (γ := (138, .int 1) :: fl 138 ((112, p) :: fl 112 γ)) (a := a) (b := b) (F := F) (g := g ++ [rows]) ((L.put (v := p) (.inl rfl)).put (v := .int 1) (.inr (.inl rfl))) hd1 hF (by omega) self_lookup
  have L2 := ((L.put (v := p) (.inl rfl)).put (v := .int 1) (.inr (.inl rfl))).put (v := u) (.inr (.inr rfl))
  have hlen := N.len
  obtain ⟨t, a', b', G', n', hB, N', hn'⟩ := armB (ob := ob) (H := H) (a := a1) (b := b1) (F := F ++ G) (rows := rows) (p := p) (q := u) hR L2 hd (by rw [noRefL_append, hF, N.ng]; rfl) (by rw [List.length_append]; omega) hr (look_put (by decide) (look_put (by decide) self_lookup)) self_lookup
  refine ⟨_, u, t, a', b', G, n, G', n', ?_, L2, N, hn, N', hn'⟩
  show (bindT f_law_node.sc lpT (.tup [p, .int 1]) γ).bind _ = _
  rw [bindArm, Option.bind_some, lpB_eq, exSs_next hA, exSs_next hB, List.append_assoc]
  rfl
theorem loopF_step {body : V → Env1 → Store → ExR} {src : Src} {n i : Nat} {γ γ' : Env1} {σ σ' : Store} {x : V} (h1 : srcAt src σ i = some (some x)) (h2 : body x γ σ = some (.next, γ', σ')) : loopF body src (n + 1) i γ σ = loopF body src n (i + 1) γ' σ' := by
  rw [loopF_succ]
  rw [h1]
  simp only [h2, Option.bind_some]
theorem loopF_end {body : V → Env1 → Store → ExR} {src : Src} {n i : Nat} {γ : Env1} {σ : Store} (h1 : srcAt src σ i = some none) : loopF body src (n + 1) i γ σ = some (.next, γ, σ) := by
  rw [loopF_succ]
  rw [h1]
/-- the rows that the loop makes of arms: rows, children, what they tell, how many -/
inductive RowsOf (ob : Nat → Option (List Int)) : List (V × Bool) → List V → List V → List V → Nat → Prop
  | nil : RowsOf ob [] [] [] [] 0
  | consN {p t : V} {B : List (V × Bool)} {rs ch G G' : List V} {n n' : Nat} : NT ob t G n → RowsOf ob B rs ch G' n' → RowsOf ob ((p, false) :: B) (.tup [p, .none, t] :: rs) (t :: ch) (G ++ G') (n + n')
  | consG {p u t : V} {B : List (V × Bool)} {rs ch G G' G'' : List V} {n n' n'' : Nat} : NT ob u G n → NT ob t G' n' → RowsOf ob B rs ch G'' n'' → RowsOf ob ((p, true) :: B) (.tup [p, u, t] :: rs) (u :: t :: ch) (G ++ (G' ++ G'')) (n + (n' + n''))
theorem RowsOf.chk {B : List (V × Bool)} {rs ch G : List V} {n : Nat} (h : RowsOf ob B rs ch G n) : (∀ H, ChkL ob H ch G n) ∧ noRefL G = true ∧ G.length ≤ n ∧ noRefL ch = true := by
  induction h with
  | nil => exact ⟨fun H => .nil, rfl, Nat.le_refl _, rfl⟩
  | consN N r ih =>
    obtain ⟨i1, i2, i3, i4⟩ := ih
    have := N.len
    exact ⟨fun H => .cons (N.chk H) (i1 H), by rw [noRefL_append, N.ng, i2]; rfl, by rw [List.length_append]; omega, by simp [noRefL, N.nr, i4]⟩
  | consG N N' r ih =>
    obtain ⟨i1, i2, i3, i4⟩ := ih
    have := N.len
    have := N'.len
    exact ⟨fun H => .cons (N.chk H) (.cons (N'.chk H) (i1 H)), by rw [noRefL_append, noRefL_append, N.ng, N'.ng, i2]; rfl, by rw [List.length_append, List.length_append]; omega, by simp [noRefL, N.nr, N'.nr, i4]⟩
theorem arms_loop {g : Store} {r : Nat} {A : List V} (hR : R = g.length + 2) (hd1 : NodeP ob H (k + 3) (d - 1) K) (hd : NodeP ob H (k + 3) (d - 2) K) (hA : ∀ (x F rows : List V), (x :: F :: (g ++ [rows]))[r]? = some A) :
    ∀ (B : List (V × Bool)) (i f : Nat) (a b : Int) (F rows : List V) (γ : Env1), LE d spot R v0 γ → (∀ j, A[i + j]? = (B.map armItem)[j]?) → B.length < f → noRefL F = true → F.length + B.length * (K + K) ≤ 1000 → rows.length + B.length ≤ 1000 →
    ∃ γ' a' b' rs ch G n, loopF (lpF ob H k) (.lst r) f i γ ([.int a, .int b] :: F :: (g ++ [rows])) = some (.next, γ', [.int a', .int b'] :: (F ++ G) :: (g ++ [rows ++ rs])) ∧ LE d spot R v0 γ' ∧ RowsOf ob B rs ch G n ∧ n ≤ B.length * (K + K)
  | [], i, f, a, b, F, rows, γ, L, hi, hf, hF, hl, hr => by
    obtain ⟨f, rfl⟩ : ∃ f', f = f' + 1 := ⟨f - 1, by simp at hf; omega⟩
    refine ⟨γ, a, b, [], [], [], 0, ?_, L, .nil, Nat.zero_le _⟩
    rw [loopF_end (by simp only [srcAt, hA]; rw [show A[i]? = none from hi 0]), List.append_nil, List.append_nil]
  | (p, c) :: B, i, f, a, b, F, rows, γ, L, hi, hf, hF, hl, hr => by
    obtain ⟨f, rfl⟩ : ∃ f', f = f' + 1 := ⟨f - 1, by simp at hf; omega⟩
    simp only [List.length_cons] at hf hl hr
    have hmul : (B.length + 1) * (K + K) = B.length * (K + K) + (K + K) := Nat.succ_mul _ _
    have hi' : ∀ j, A[i + 1 + j]? = (B.map armItem)[j]? := fun j => by
      have := hi (j + 1)
      rw [show i + (j + 1) = i + 1 + j by omega] at this
      simpa using this
    cases c with
    | false =>
      obtain ⟨γ', t, a', b', G, n, e, L', N, hn⟩ := iterN (ob := ob) (H := H) (a := a) (b := b) (rows := rows) (p := p) hR L hd hF (by omega) (by omega)
      have hlen := N.len
      obtain ⟨γ'', a'', b'', rs, ch, G', n', e', L'', ro, hn'⟩ := arms_loop hR hd1 hd hA B (i + 1) f a' b' (F ++ G) (rows ++ [.tup [p, .none, t]]) γ' L' hi' (by omega) (by rw [noRefL_append, hF, N.ng]; rfl) (by rw [List.length_append]; omega) (by rw [List.length_append]; simp only [List.length_cons, List.length_nil]; omega)
      refine ⟨γ'', a'', b'', .tup [p, .none, t] :: rs, t :: ch, G ++ G', n + n', ?_, L'', .consN N ro, by simp only [List.length_cons]; omega⟩
      rw [loopF_step (x := .tup [p, .int 0]) (by simp only [srcAt, hA]; rw [show A[i]? = some (.tup [p, .int 0]) from hi 0]) e, e', List.append_assoc, List.append_assoc]
      rfl
    | true =>
      obtain ⟨γ', u, t, a', b', G, n, G1, n1, e, L', N, hn, N1, hn1⟩ := iterG (ob := ob) (H := H) (a := a) (b := b) (rows := rows) (p := p) hR L hd1 hd hF (by omega) (by omega)
      have hlen := N.len
      have hlen1 := N1.len
      obtain ⟨γ'', a'', b'', rs, ch, G', n', e', L'', ro, hn'⟩ := arms_loop hR hd1 hd hA B (i + 1) f a' b' (F ++ (G ++ G1)) (rows ++ [.tup [p, u, t]]) γ' L' hi' (by omega) (by rw [noRefL_append, noRefL_append, hF, N.ng, N1.ng]; rfl) (by rw [List.length_append, List.length_append]; omega) (by rw [List.length_append]; simp only [List.length_cons, List.length_nil]; omega)
      refine ⟨γ'', a'', b'', .tup [p, u, t] :: rs, u :: t :: ch, G ++ (G1 ++ G'), n + (n1 + n'), ?_, L'', .consG N N1 ro, by simp only [List.length_cons]; omega⟩
      rw [loopF_step (x := .tup [p, .int 1]) (by simp only [srcAt, hA]; rw [show A[i]? = some (.tup [p, .int 1]) from hi 0]) e, e', List.append_assoc, List.append_assoc, List.append_assoc]
      rfl
end
end Mine
end
section
open PySem
set_option maxRecDepth 100000
set_option autoImplicit false
set_option linter.unusedVariables false
set_option linter.unusedSimpArgs false
namespace Mine
section
variable {ob : Nat → Option (List Int)} {H : Nat → Nat → Option V} {k K R : Nat} {d spot : Int} {v0 : V} {γ : Env1}
theorem RowsOf.length {B : List (V × Bool)} {rs ch G : List V} {n : Nat} (h : RowsOf ob B rs ch G n) : rs.length = B.length := by
  induction h with
  | nil => rfl
  | consN N r ih => simp [ih]
  | consG N N' r ih => simp [ih]
theorem RowsOf.nilP {P : List V → List V → Prop} {rs ch G : List V} {n : Nat} (h : RowsOf ob [] rs ch G n) (k : P [] []) : P rs ch := by
  cases h
  exact k
theorem RowsOf.nP {P : List V → List V → Prop} {p : V} {B : List (V × Bool)} {rs ch G : List V} {n : Nat} (h : RowsOf ob ((p, false) :: B) rs ch G n) (k : ∀ {t rs' ch' G' n'}, RowsOf ob B rs' ch' G' n' → P (.tup [p, .none, t] :: rs') (t :: ch')) : P rs ch := by
  cases h with
  | consN N r => exact k r
theorem RowsOf.gP {P : List V → List V → Prop} {p : V} {B : List (V × Bool)} {rs ch G : List V} {n : Nat} (h : RowsOf ob ((p, true) :: B) rs ch G n) (k : ∀ {ku ru t rs' ch' G' n'}, RowsOf ob B rs' ch' G' n' → P (.tup [p, .tup (.str ku :: boolV :: ru), t] :: rs') (.tup (.str ku :: boolV :: ru) :: t :: ch')) : P rs ch := by
  cases h with
  | consG U N r =>
    obtain ⟨ku, ru, rfl⟩ := U.sh
    exact k r
theorem RowsOf.nr {B : List (V × Bool)} {rs ch G : List V} {n : Nat} (h : RowsOf ob B rs ch G n) (hB : (B.all fun q => noRef q.1) = true) : noRefL rs = true := by
  induction h with
  | nil => rfl
  | consN N r ih =>
    rw [List.all_cons, Bool.and_eq_true] at hB
    simp [noRefL, noRef, hB.1, N.nr, ih hB.2]
  | consG U N r ih =>
    rw [List.all_cons, Bool.and_eq_true] at hB
    simp [noRefL, noRef, hB.1, U.nr, N.nr, ih hB.2]
/-- what the arms of the table tell -/
inductive MF (ob : Nat → Option (List Int)) (spot : Int) (k0 : Nat) (r0 : List V) (w : Nat) (rs ch : List V) : Prop
  | good (hw : w = 0) (hi : ∀ H, innerRun ob H (tMatch spot (vOf k0 r0) rs) = some (vOf k0 r0 :: ch)) (ha : ∀ H, armsRun ob H (tMatch spot (vOf k0 r0) rs) = some (.ret .none))
  | bad (m : Nat) (hw : WordOf m w) (ha : ∀ H, armsRun ob H (tMatch spot (vOf k0 r0) rs) = some (.exc (.str m) (.int spot)))
theorem mf_at {B : List (V × Bool)} {w n k0 : Nat} {rs ch G r0 : List V} (hB : (B, w) ∈ armTab) (ro : RowsOf ob B rs ch G n) : MF ob spot k0 r0 w rs ch := by
  simp only [armTab, List.mem_cons, List.not_mem_nil, or_false, Prod.mk.injEq] at hB
  rcases hB with ⟨rfl, rfl⟩ | ⟨rfl, rfl⟩ | ⟨rfl, rfl⟩ | ⟨rfl, rfl⟩ | ⟨rfl, rfl⟩ | ⟨rfl, rfl⟩ | ⟨rfl, rfl⟩ | ⟨rfl, rfl⟩ | ⟨rfl, rfl⟩ | ⟨rfl, rfl⟩ | ⟨rfl, rfl⟩
  · apply ro.nP; intro _ _ _ _ _ ro; apply ro.nP; intro _ _ _ _ _ ro; apply ro.nilP; exact .good rfl (fun H => in_NN) fun H => arm0
  · apply ro.nP; intro _ _ _ _ _ ro; apply ro.nilP; exact .good rfl (fun H => in_N) fun H => arm1
  · apply ro.nP; intro _ _ _ _ _ ro; apply ro.nP; intro _ _ _ _ _ ro; apply ro.nilP; exact .good rfl (fun H => in_NN) fun H => arm2
  · apply ro.gP; intro _ _ _ _ _ _ _ ro; apply ro.nP; intro _ _ _ _ _ ro; apply ro.nilP; exact .good rfl (fun H => in_GN) fun H => arm3
  · apply ro.gP; intro _ _ _ _ _ _ _ ro; apply ro.nP; intro _ _ _ _ _ ro; apply ro.nP; intro _ _ _ _ _ ro; apply ro.nilP; exact .good rfl (fun H => in_GNN) fun H => arm4
  · apply ro.nP; intro _ _ _ _ _ ro; apply ro.nilP; exact .bad 158 (.inl ⟨rfl, rfl⟩) fun H => arm5
  · apply ro.gP; intro _ _ _ _ _ _ _ ro; apply ro.nP; intro _ _ _ _ _ ro; apply ro.nilP; exact .bad 158 (.inl ⟨rfl, rfl⟩) fun H => arm6
  · apply ro.gP; intro _ _ _ _ _ _ _ ro; apply ro.nilP; exact .bad 158 (.inl ⟨rfl, rfl⟩) fun H => arm7
  · apply ro.nP; intro _ _ _ _ _ ro; apply ro.nP; intro _ _ _ _ _ ro; apply ro.nilP; exact .bad 157 (.inr (.inl ⟨rfl, rfl⟩)) fun H => arm8
  · apply ro.nP; intro _ _ _ _ _ ro; apply ro.nP; intro _ _ _ _ _ ro; apply ro.gP; intro _ _ _ _ _ _ _ ro; apply ro.nilP; exact .bad 157 (.inr (.inl ⟨rfl, rfl⟩)) fun H => arm9
  · apply ro.nP; intro _ _ _ _ _ ro; apply ro.gP; intro _ _ _ _ _ _ _ ro; apply ro.nilP; exact .bad 158 (.inl ⟨rfl, rfl⟩) fun H => arm10
theorem match_nt {B : List (V × Bool)} {w n n0 : Nat} {rs ch G G0 : List V} {t0 : V} (hB : (B, w) ∈ armTab) (N0 : NT ob t0 G0 n0) (ro : RowsOf ob B rs ch G n) : NT ob (tMatch spot t0 rs) (rowV spot w :: (G0 ++ G)) (n0 + n + 1) := by
  obtain ⟨c1, c2, c3, c4⟩ := ro.chk
  obtain ⟨k0, r0, rfl⟩ := N0.sh
  have hc : ∀ H, ChkL ob H (.tup (.str k0 :: boolV :: r0) :: ch) (G0 ++ G) (n0 + n) := fun H => .cons (N0.chk H) (c1 H)
  have hG : noRefL (G0 ++ G) = true := by rw [noRefL_append, N0.ng, c2]; rfl
  have hl : (G0 ++ G).length ≤ n0 + n := by rw [List.length_append]; exact Nat.add_le_add N0.len c3
  have hnr := ro.nr (List.all_eq_true.mp (show (armTab.all fun q => q.1.all fun p => noRef p.1) = true by rfl) _ hB)
  have hr : noRefL [boolV, .int spot, .tup (.str k0 :: boolV :: r0), .tup rs] = true := by
    have := N0.nr
    simp only [noRefL, noRef, Bool.and_true, Bool.true_and] at this ⊢
    simp [noRefL, noRef, this, hnr]
  cases mf_at (spot := spot) (k0 := k0) (r0 := r0) hB ro with
  | good hw hi ha =>
    subst hw
    exact NT.goodM hr (by rw [noRefL, N0.nr, c4]; rfl) hi ha hc hG hl
  | bad m hw ha => exact NT.badM hr ha hw hc hG hl
theorem m0_eq : ∃ k pt fp p p', stAt 0 mB = .asgT [(30, ⟨328, 8, 328, 12⟩), (90, ⟨328, 14, 328, 19⟩)] k pt (.call 117 fp mArgs p) p' := ⟨_, _, _, _, _, rfl⟩
theorem m3_eq : ∃ p p', stAt 3 mB = .forS lpT (.over (.lv 30 p)) lpB p' := ⟨_, _, rfl⟩
theorem mB_eq : mB = .cons (stAt 0 mB) (.cons (stAt 1 mB) (.cons (stAt 2 mB) (.cons (stAt 3 mB) (.cons (stAt 4 mB) .nil)))) := by rfl
theorem wayM {a b w : Int} {F : List V} (hd1 : NodeP ob H (k + 3) (d - 1) K) (hd : NodeP ob H (k + 3) (d - 2) K) (hF : noRefL F = true) (hl : F.length + (7 * K + 1) ≤ 1000) :
    Ends ob H k mB (γw d w spot) a b F [] (7 * K + 1) := by
  have hF' : F.length ≤ 1000000 := by omega
  obtain ⟨v, a1, b1, hv, e1⟩ := oneG (ob := ob) (H := H) (k := k) (a := a) (b := b) (F := F) (t := 44) (g := garb) (items := allRows) (by decide) (by rfl) (by decide) (by decide)
  obtain ⟨r, wd, B, rfl, hA, r2, r45, hB⟩ := pickArm hv
  have s0 : exS (ndC ob H k) (stAt 0 mB) (γw d w spot) [[.int a, .int b], F] = some (.next, (90, .str wd) :: (30, .ref r) :: γw d w spot, [.int a1, .int b1] :: F :: garb) := by
    have hm := margs (ob := ob) (H := H) (k := k) (d := d) (w := w) (spot := spot) (x := [.int a, .int b]) (y := F)
    exact st_asgT (vs := [.ref r, .str wd]) (by kernel_rfl) (ev_call e1 (by rfl) hm) (by kernel_rfl)
  have s1 : exS (ndC ob H k) (stAt 1 mB) ((90, .str wd) :: (30, .ref r) :: γw d w spot) ([.int a1, .int b1] :: F :: garb) = some (.next, (90, .str wd) :: (30, .ref r) :: γw d w spot, [.int a1, .int b1] :: (F ++ [rowV spot wd]) :: garb) := by
    exact st_appendE (v := rowV spot wd) (σ1 := [.int a1, .int b1] :: F :: garb) (k := 1) (by kernel_rfl) (by kernel_rfl) (by kernel_rfl) hF' (by kernel_rfl) (by kernel_rfl)
  obtain ⟨t0, a2, b2, G0, n0, e2, N0, hn0⟩ := node0 (a := a1) (b := b1) (F := F ++ [rowV spot wd]) (g := garb) hd1 (by rw [noRefL_append, hF]; rfl) (by simp only [List.length_append, List.length_cons, List.length_nil]; omega)
  have l0 := N0.len
  have hg : garb.length = 43 := by rfl
  have s2 : exS (ndC ob H k) (stAt 2 mB) ((90, .str wd) :: (30, .ref r) :: γw d w spot) ([.int a1, .int b1] :: (F ++ [rowV spot wd]) :: garb) = some (.next, (49, .ref 45) :: (87, t0) :: (90, .str wd) :: (30, .ref r) :: γw d w spot, [.int a2, .int b2] :: (F ++ [rowV spot wd] ++ G0) :: (garb ++ [[]])) := by
    exact st_asgT (vs := [t0, .ref 45]) (by kernel_rfl) (ev_tup (evs_call e2 (by rfl) (by kernel_rfl) (evs_one (by kernel_rfl))) (by rfl)) (by kernel_rfl)
  have hcell : ∀ (x F rows : List V), (x :: F :: (garb ++ [rows]))[r]? = some (B.map armItem) := by
    intro x F rows
    obtain ⟨r', rfl⟩ : ∃ r', r = r' + 2 := ⟨r - 2, by omega⟩
    rw [List.getElem?_cons_succ, List.getElem?_cons_succ, List.getElem?_append_left (by rw [hg]; omega)]
    exact hA
  have hBl : B.length ≤ 3 := by
    have := List.all_eq_true.mp (show (armTab.all fun q => Nat.ble q.1.length 3) = true by rfl) _ hB
    exact Nat.le_of_ble_eq_true this
  have hmul : B.length * (K + K) ≤ 3 * (K + K) := Nat.mul_le_mul_right _ hBl
  have L0 : LE d spot 45 t0 ((49, .ref 45) :: (87, t0) :: (90, .str wd) :: (30, .ref r) :: γw d w spot) := ⟨rfl, rfl, rfl, rfl, rfl, rfl, rfl⟩
  obtain ⟨γ', a3, b3, rs, ch, G, n, e3, L', ro, hn⟩ := arms_loop (ob := ob) (H := H) (R := 45) (g := garb) (r := r) (A := B.map armItem) (by rw [hg]) hd1 hd hcell B 0 FU a2 b2 (F ++ [rowV spot wd] ++ G0) [] _ L0 (fun j => by rw [Nat.zero_add]) (by unfold FU; omega) (by rw [noRefL_append, noRefL_append, hF, N0.ng]; rfl) (by simp only [List.length_append, List.length_cons, List.length_nil]; omega) (by simp only [List.length_nil]; omega)
  have s3 : exS (ndC ob H k) (stAt 3 mB) ((49, .ref 45) :: (87, t0) :: (90, .str wd) :: (30, .ref r) :: γw d w spot) ([.int a2, .int b2] :: (F ++ [rowV spot wd] ++ G0) :: (garb ++ [[]])) = some (.next, γ', [.int a3, .int b3] :: (F ++ [rowV spot wd] ++ G0 ++ G) :: (garb ++ [[] ++ rs])) := by
    obtain ⟨p, p', e0⟩ := m3_eq
    rw [e0]
    rw [exS_forS]
    have hmm : (ndC ob H k).mm = true := rfl
    rw [hmm, if_pos rfl]
    have hit : itSrc (ndC ob H k) (ndC ob H k).sc (.over (.lv 30 p)) ((49, .ref 45) :: (87, t0) :: (90, .str wd) :: (30, .ref r) :: γw d w spot) ([.int a2, .int b2] :: (F ++ [rowV spot wd] ++ G0) :: (garb ++ [[]])) = some (.lst r, [.int a2, .int b2] :: (F ++ [rowV spot wd] ++ G0) :: (garb ++ [[]])) := by
      simp [itSrc, evE_none, evE_bool, evE_int, evE_str, evE_lv, evE_gi, evE_tup, evE_lst, evE_idx, evE_slc, evE_rev, evE_bin, evE_cmp, evE_and, evE_or, evE_not, evE_neg, evE_ite, evE_call, evE_bcall, evE_meth, evE_comp_no, evE_comp_yes, evE_hook, evE_opq, List.lookup, srcOf]
    rw [hit, Option.bind_some]
    exact e3
  have hrs := ro.length
  have hcell' : ∀ (x F : List V), (x :: F :: (garb ++ [[] ++ rs]))[45]? = some rs := by
    intro x F
    rw [List.getElem?_cons_succ, List.getElem?_cons_succ, List.getElem?_append_right (by rw [hg]; omega), hg]
    rfl
  have hrs' : rs.length ≤ 1000000 := by omega
  have s4 : exSs (ndC ob H k) (.cons (stAt 4 mB) .nil) γ' ([.int a3, .int b3] :: (F ++ [rowV spot wd] ++ G0 ++ G) :: (garb ++ [[] ++ rs])) = some (.ret (tMatch spot t0 rs), γ', [.int a3, .int b3] :: (F ++ [rowV spot wd] ++ G0 ++ G) :: (garb ++ [[] ++ rs])) := by
    have hc := hcell' [.int a3, .int b3] (F ++ [rowV spot wd] ++ G0 ++ G)
    exact ss_ret (ev_tup (evs_pure (by kernel_rfl) (evs_pure (lv_at L'.sort) (evs_pure (lv_at L'.spot) (evs_pure (lv_at L'.value) (evs_one (ev_bcall (by kernel_rfl) (evs_one (lv_at L'.rows)) (tuple_ref hc hrs'))))))) (by rfl))
  refine ⟨tMatch spot t0 rs, a3, b3, rowV spot wd :: (G0 ++ G), n0 + n + 1, garb ++ [[] ++ rs], γ', ?_, match_nt hB N0 ro, by omega⟩
  rw [mB_eq, exSs_next s0, exSs_next s1, exSs_next s2, exSs_next s3, s4]
  simp
end
end Mine
end
section
open PySem
set_option maxRecDepth 100000
set_option autoImplicit false
set_option linter.unusedVariables false
set_option linter.unusedSimpArgs false
namespace Mine
section
variable {ob : Nat → Option (List Int)} {H : Nat → Nat → Option V} {k K : Nat} {d : Int}
theorem node_call {a b : Int} {F : List V} {t : V} {γ' : Env1} {σ' : Store} (h : exSs (ndC ob H k) ndB [(66, .ref 1), (38, .int d), (105, .ref 0)] [[.int a, .int b], F] = some (.ret t, γ', σ')) :
    callFn (GH ob H) (RF ob H (k + 3)) f_law_node [.ref 0, .int d, .ref 1] [[.int a, .int b], F] = some (.ret t, σ') := by
  unfold callFn
  rw [if_pos (by rfl)]
  have e0 : (f_law_node.params.zip [V.ref 0, .int d, .ref 1]).reverse = [(66, .ref 1), (38, .int d), (105, .ref 0)] := rfl
  rw [e0]
  show (exSs (ndC ob H k) ndB _ _).bind _ = _
  rw [h]
  rfl
theorem node_leaf (hd : ¬ 0 < d) : NodeS ob H (k + 3) d 1 := by
  intro a b F hF hl
  obtain ⟨t, a', b', G, n, g, γ', e, N, hn⟩ := way14 (ob := ob) (H := H) (k := k) (d := d) (a := a) (b := b) (spot := spotOf F) (F := F)
  refine ⟨t, a', b', G, n, g, node_call (γ' := γ') ?_, N, hn⟩
  rw [pre_leaf hd (by omega), pre6l, pick14 rfl]
  exact e
theorem node_step (hd : 0 < d) (h1 : NodeP ob H (k + 3) (d - 1) K) (h2 : NodeP ob H (k + 3) (d - 2) K) : NodeS ob H (k + 3) d (7 * K + 1) := by
  intro a b F hF hl
  obtain ⟨w, a1, b1, w0, w14, ep⟩ := pre_pos (ob := ob) (H := H) (k := k) (d := d) (a := a) (b := b) (F := F) hd (by omega)
  by_cases c4 : w < 4
  · obtain ⟨t, a', b', G, n, g, γ', e, N, hn⟩ := wayM (ob := ob) (H := H) (k := k) (d := d) (a := a1) (b := b1) (w := w) (spot := spotOf F) (F := F) h1 h2 hF hl
    refine ⟨t, a', b', G, n, g, node_call (γ' := γ') ?_, N, hn⟩
    obtain ⟨p1, p2, p3, p4, e4⟩ := if_lt4
    rw [ep, e4]
    exact take_lt rfl c4 e
  · by_cases c6 : w < 6
    · obtain ⟨t, a', b', G, n, g, γ', e, N, hn⟩ := wayB (ob := ob) (H := H) (k := k) (d := d) (a := a1) (b := b1) (w := w) (spot := spotOf F) (F := F) (by omega) h1 hF (by omega)
      refine ⟨t, a', b', G, n, g, node_call (γ' := γ') ?_, N, by omega⟩
      obtain ⟨p1, p2, p3, p4, e4⟩ := if_lt4
      obtain ⟨q1, q2, q3, q4, e6⟩ := if_lt6
      rw [ep, e4, skip_lt rfl c4, e6]
      exact take_lt rfl c6 e
    · obtain ⟨t1, a2, b2, G1, n1, e6, N1, hn1⟩ := pre6 (ob := ob) (H := H) (k := k) (d := d) (a := a1) (b := b1) (w := w) (spot := spotOf F) (F := F) h1 (by omega) w14 hF (by omega)
      have l1 := N1.len
      have hF1 : noRefL (F ++ G1) = true := by rw [noRefL_append, hF, N1.ng]; rfl
      have hl1 : (F ++ G1).length + K + K ≤ 1000 := by rw [List.length_append]; omega
      have fin : ∀ j : Nat, j < 8 → w = (j : Int) + 6 → Ends ob H k (stThen (stAt (j + 5) ndB)) ((24, t1) :: γw d w (spotOf F)) a2 b2 (F ++ G1) G1 (n1 + K + K + 1) → ∃ t a' b' G n g, callFn (GH ob H) (RF ob H (k + 3)) f_law_node [.ref 0, .int d, .ref 1] [[.int a, .int b], F] = some (.ret t, [.int a', .int b'] :: (F ++ G) :: g) ∧ NT ob t G n ∧ n ≤ 7 * K + 1 := by
        intro j hj hw ⟨t, a', b', G, n, g, γ', e, N, hn⟩
        refine ⟨t, a', b', G1 ++ G, n, g, node_call (γ' := γ') ?_, N, by omega⟩
        rw [ep, e6]
        rw [List.append_assoc] at e
        exact pick j hj (by rw [← hw]; rfl) e
      have hw : w = 6 ∨ w = 7 ∨ w = 8 ∨ w = 9 ∨ w = 10 ∨ w = 11 ∨ w = 12 ∨ w = 13 := by omega
      rcases hw with rfl | rfl | rfl | rfl | rfl | rfl | rfl | rfl
      · exact fin 0 (by decide) rfl (way6 N1 h1 hF1 hl1)
      · exact fin 1 (by decide) rfl (way7 N1 h1 hF1 hl1)
      · exact fin 2 (by decide) rfl (way8 N1 h1 hF1 hl1)
      · exact fin 3 (by decide) rfl (way9 N1 h1 hF1 hl1)
      · exact fin 4 (by decide) rfl (way10 N1 h1 hF1 hl1)
      · exact fin 5 (by decide) rfl (way11 N1 h1 hF1 hl1)
      · exact fin 6 (by decide) rfl (way12 N1 h1 hF1 hl1)
      · exact fin 7 (by decide) rfl (way13 N1 h1 hF1 hl1)
theorem NodeP.weak {m K' : Nat} (h : NodeP ob H m d K) (hk : K ≤ K') : NodeP ob H m d K' := by
  intro s f σ a b F h1 h2 h3 h4 h5
  obtain ⟨t, a', b', G, n, e, N, hn⟩ := h s f σ a b F h1 h2 h3 h4 (by omega)
  exact ⟨t, a', b', G, n, e, N, by omega⟩
theorem node0' (k : Nat) : NodeP ob H (k + 4) 0 1 := node_of_small (node_leaf (k := k) (by decide))
theorem nodem (k : Nat) : NodeP ob H (k + 4) (-1) 1 := node_of_small (node_leaf (k := k) (by decide))
theorem node1 (k : Nat) : NodeP ob H (k + 5) 1 8 := node_of_small (node_step (k := k + 1) (K := 1) (d := 1) (by decide) (node0' k) (nodem k))
theorem node2 (k : Nat) : NodeP ob H (k + 6) 2 57 := node_of_small (node_step (k := k + 2) (K := 8) (d := 2) (by decide) (node1 k) ((node0' (k + 1)).weak (by decide)))
theorem node3 (k : Nat) : NodeP ob H (k + 7) 3 400 := node_of_small (node_step (k := k + 3) (K := 57) (d := 3) (by decide) (node2 k) ((node1 (k + 1)).weak (by decide)))
end
end Mine
end
section
open PySem
set_option maxRecDepth 100000
set_option autoImplicit false
set_option linter.unusedVariables false
set_option linter.unusedSimpArgs false
namespace Mine
section
variable {ob : Nat → Option (List Int)} {H : Nat → Nat → Option V} {k : Nat}
theorem pool_small {Ψ : Psi} {a i : Nat} {l : List Int} (ho : ob a = some l) (hl : l.length ≤ 1000) (hi : i ≤ 1000) : ∃ x y, callFn (GH ob H) Ψ f_law_pool [.obj a, .int i] [] = some (.ret (.ref 0), [[.int x, .int y]]) := by
  have ho' : (GH ob H).ob a = some l := ho
  have hb : (GH ob H).n = 161 := by rfl
  have h1 : (GH ob H).bi .len 19 = true := by rfl
  have h2 : (GH ob H).bi .max 21 = true := by rfl
  have h3 : (GH ob H).bi .int 17 = true := by rfl
  have q1 : smallI 7919 = true := by rfl
  have q2 : smallI 31 = true := by rfl
  have q3 : smallI 48271 = true := by rfl
  have q4 : smallI (i : Int) = true := small_lit (by omega)
  have q5 : ∀ (p : Prop) [Decidable p], smallI (if p then 1 else 0) = true := by intro p _; split <;> rfl
  have q6 : smallI 10 = true := by rfl
  have hl' : l.length ≤ 1000000 := by omega
  have hi' : (i : Int) ≤ 1000000 := by omega
  have key : ∀ c : Int, ∃ x y, exSs ((GH ob H).cfg Ψ f_law_pool.sc) (stDrop 2 f_law_pool.body) [(37, .int c), (4, .int i), (104, .obj a)] [] = some (.ret (.ref 0), [(75, .int y), (15, .int (if (-1 - c) > c then -1 - c else c)), (37, .int c), (4, .int i), (104, .obj a)], [[.int x, .int y]]) := by
    intro c
    refine ⟨(if c < -1 - c then -1 - c else c) * (if 1000000000000000000 ≤ (if c < -1 - c then -1 - c else c) then 1 else 0), (((if c < -1 - c then -1 - c else c).fmod 2147483629 + 7919 * i * i + 31 * i + 17) * 48271).fmod 2147483647, ?_⟩
    simp [stDrop, f_law_pool, exSs_nil, exSs_cons, exS_asg, exS_asgT, exS_asgI, exS_expr, exS_exprC, exS_ifS, exS_forS, exS_whileS, exS_ret, exS_raise, exS_opq, evT, evE_none, evE_bool, evE_int, evE_str, evE_lv, evE_gi, evE_tup, evE_lst, evE_idx, evE_slc, evE_rev, evE_bin, evE_cmp, evE_and, evE_or, evE_not, evE_neg, evE_ite, evE_call, evE_bcall, evE_meth, evE_comp_no, evE_comp_yes, evE_hook, evE_opq, evEs_nil, evEs_cons, hb, h1, h2, h3, q1, q2, q3, q4, q5, q6, binV_add, binV_addT, binV_addL, binV_sub, binV_mul, binV_fdiv, binV_mod, binV_pow, bcallV_len, bcallV_list, bcallV_tupT, bcallV_tupL, bcallV_int, bcallV_bool, bcallV_max, bcallV_min, cmpV_eq, cmpV_ne, cmpV_lt, cmpV_ge, cmpV_gt, cmpV_is, cmpV_isnot, cmpV_in, cmpV_inS, mkLst, okL, lim, nble, nblt, nbeq, asgOk_none, asgOk_bool, asgOk_int, asgOk_str, asgOk_lv, asgOk_gi, asgOk_tup, asgOk_lst, asgOk_idx, asgOk_slc, asgOk_rev, asgOk_bin, asgOk_cmp, asgOk_and, asgOk_or, asgOk_not, asgOk_neg, asgOk_ite, asgOk_call, asgOk_bcall, asgOk_meth, asgOk_hook, asgOk_comp, store, List.lookup, Gx.cfg]
  have pb : f_law_pool.body = .cons (stAt 0 f_law_pool.body) (.cons (stAt 1 f_law_pool.body) (stDrop 2 f_law_pool.body)) := by rfl
  have s0 : exS ((GH ob H).cfg Ψ f_law_pool.sc) (stAt 0 f_law_pool.body) [(4, .int i), (104, .obj a)] [] = some (.next, [(37, .int 0), (4, .int i), (104, .obj a)], []) := by
    simp [stAt, stDrop, f_law_pool, exS_asg, exS_asgT, exS_asgI, exS_expr, exS_exprC, exS_ifS, exS_forS, exS_whileS, exS_ret, exS_raise, exS_opq, evE_none, evE_bool, evE_int, evE_str, evE_lv, evE_gi, evE_tup, evE_lst, evE_idx, evE_slc, evE_rev, evE_bin, evE_cmp, evE_and, evE_or, evE_not, evE_neg, evE_ite, evE_call, evE_bcall, evE_meth, evE_comp_no, evE_comp_yes, evE_hook, evE_opq, asgOk_none, asgOk_bool, asgOk_int, asgOk_str, asgOk_lv, asgOk_gi, asgOk_tup, asgOk_lst, asgOk_idx, asgOk_slc, asgOk_rev, asgOk_bin, asgOk_cmp, asgOk_and, asgOk_or, asgOk_not, asgOk_neg, asgOk_ite, asgOk_call, asgOk_bcall, asgOk_meth, asgOk_hook, asgOk_comp, store, nbeq, Gx.cfg]
  have s1 : ∃ c, exS ((GH ob H).cfg Ψ f_law_pool.sc) (stAt 1 f_law_pool.body) [(37, .int 0), (4, .int i), (104, .obj a)] [] = some (.next, [(37, .int c), (4, .int i), (104, .obj a)], []) := by
    by_cases hlt : i < l.length
    · refine ⟨l[i], ?_⟩
      have hlt' : (i : Int) < l.length := by omega
      simp [stAt, stDrop, f_law_pool, exSs_nil, exSs_cons, exS_asg, exS_asgT, exS_asgI, exS_expr, exS_exprC, exS_ifS, exS_forS, exS_whileS, exS_ret, exS_raise, exS_opq, evT, evE_none, evE_bool, evE_int, evE_str, evE_lv, evE_gi, evE_tup, evE_lst, evE_idx, evE_slc, evE_rev, evE_bin, evE_cmp, evE_and, evE_or, evE_not, evE_neg, evE_ite, evE_call, evE_bcall, evE_meth, evE_comp_no, evE_comp_yes, evE_hook, evE_opq, evEs_nil, evEs_cons, hb, h1, ho', hl', hi', hlt, hlt', idxV, itemsOf, bcallV_len, bcallV_list, bcallV_tupT, bcallV_tupL, bcallV_int, bcallV_bool, bcallV_max, bcallV_min, cmpV_eq, cmpV_ne, cmpV_lt, cmpV_ge, cmpV_gt, cmpV_is, cmpV_isnot, cmpV_in, cmpV_inS, truth, okL, lim, nble, nblt, nbeq, asgOk_none, asgOk_bool, asgOk_int, asgOk_str, asgOk_lv, asgOk_gi, asgOk_tup, asgOk_lst, asgOk_idx, asgOk_slc, asgOk_rev, asgOk_bin, asgOk_cmp, asgOk_and, asgOk_or, asgOk_not, asgOk_neg, asgOk_ite, asgOk_call, asgOk_bcall, asgOk_meth, asgOk_hook, asgOk_comp, store, List.lookup, Gx.cfg]
    · refine ⟨0, ?_⟩
      have hlt' : ¬ (i : Int) < l.length := by omega
      simp [stAt, stDrop, f_law_pool, exSs_nil, exSs_cons, exS_asg, exS_asgT, exS_asgI, exS_expr, exS_exprC, exS_ifS, exS_forS, exS_whileS, exS_ret, exS_raise, exS_opq, evT, evE_none, evE_bool, evE_int, evE_str, evE_lv, evE_gi, evE_tup, evE_lst, evE_idx, evE_slc, evE_rev, evE_bin, evE_cmp, evE_and, evE_or, evE_not, evE_neg, evE_ite, evE_call, evE_bcall, evE_meth, evE_comp_no, evE_comp_yes, evE_hook, evE_opq, evEs_nil, evEs_cons, hb, h1, ho', hl', hi', hlt, hlt', idxV, itemsOf, bcallV_len, bcallV_list, bcallV_tupT, bcallV_tupL, bcallV_int, bcallV_bool, bcallV_max, bcallV_min, cmpV_eq, cmpV_ne, cmpV_lt, cmpV_ge, cmpV_gt, cmpV_is, cmpV_isnot, cmpV_in, cmpV_inS, truth, okL, lim, nble, nblt, nbeq, asgOk_none, asgOk_bool, asgOk_int, asgOk_str, asgOk_lv, asgOk_gi, asgOk_tup, asgOk_lst, asgOk_idx, asgOk_slc, asgOk_rev, asgOk_bin, asgOk_cmp, asgOk_and, asgOk_or, asgOk_not, asgOk_neg, asgOk_ite, asgOk_call, asgOk_bcall, asgOk_meth, asgOk_hook, asgOk_comp, store, List.lookup, Gx.cfg]
  obtain ⟨c, s1⟩ := s1
  obtain ⟨x, y, e⟩ := key c
  refine ⟨x, y, ?_⟩
  unfold callFn
  rw [if_pos (by rfl)]
  have e0 : (f_law_pool.params.zip [V.obj a, .int i]).reverse = [(4, .int i), (104, .obj a)] := rfl
  rw [e0, pb]
  show (exSs ((GH ob H).cfg Ψ f_law_pool.sc) _ _ _).bind _ = _
  rw [exSs_next s0, exSs_next s1, e]
  rfl
theorem pool_at {a i : Nat} {l : List Int} {σ : Store} (ho : ob a = some l) (hl : l.length ≤ 1000) (hi : i ≤ 1000) : ∃ x y, RF ob H (k + 1) 133 [.obj a, .int i] σ = some (.ret (.ref σ.length), σ ++ [[.int x, .int y]]) := by
  obtain ⟨x, y, e⟩ := pool_small (H := H) (Ψ := RF ob H k) ho hl hi
  refine ⟨x, y, ?_⟩
  rw [RF_framed (fn := f_law_pool) (by rfl) (by rfl)]
  exact frame0l rfl rfl e rfl
end
end Mine
end
section
open PySem
set_option maxRecDepth 100000
set_option autoImplicit false
set_option linter.unusedVariables false
set_option linter.unusedSimpArgs false
namespace Mine
noncomputable def isRow : V → Bool
  | .tup [.int _, .str _] => true
  | _ => false
theorem isRow_inv {z : V} (h : isRow z = true) : ∃ spot w, z = rowV spot w := by
  cases z with
  | tup l => cases l with
    | nil => cases h
    | cons a l => cases a with
      | int i => cases l with
        | nil => cases h
        | cons b l => cases b with
          | str w => cases l with
            | nil => exact ⟨i, w, rfl⟩
            | cons _ _ => cases h
          | _ => cases h
      | _ => cases h
  | _ => cases h
section
variable {ob : Nat → Option (List Int)} {H : Nat → Nat → Option V}
mutual
theorem Chk.rows {t : V} {rows : List V} {n : Nat} : Chk ob H t rows n → rows.all isRow = true
  | .none _ _ h => h.rows
  | .good _ _ h => by exact h.rows
  | .bad _ _ _ h => by exact h.rows
theorem ChkL.rows {l : List V} {rows : List V} {n : Nat} : ChkL ob H l rows n → rows.all isRow = true
  | .nil => rfl
  | .cons a b => by rw [List.all_append, a.rows, b.rows]; rfl
end
noncomputable def GoodT (ob : Nat → Option (List Int)) (t : V) (rows : List V) : Prop := ∃ n, noRef t = true ∧ (∀ H, Chk ob H t rows n) ∧ n ≤ 90000
theorem GoodT.uniq {t : V} {r r' : List V} (h : GoodT ob t r) (h' : GoodT ob t r') : toldV r = toldV r' := by
  obtain ⟨n, _, hc, hn⟩ := h
  obtain ⟨n', _, hc', hn'⟩ := h'
  have a := check_ok (ob := ob) (H := tH 0 pEach t) (x := 0) (tree := t) (by simp [tH, nbeq]) (by simp [tH, nbeq, k_params, k_body]) (hc _) hn
  have b := check_ok (ob := ob) (H := tH 0 pEach t) (x := 0) (tree := t) (by simp [tH, nbeq]) (by simp [tH, nbeq, k_params, k_body]) (hc' _) hn'
  unfold toldV
  cases h1 : r.find? badRow with
  | none =>
    rw [h1] at a
    cases h2 : r'.find? badRow with
    | none => rfl
    | some y =>
      rw [h2] at b
      obtain ⟨σ', a⟩ := a
      obtain ⟨m, w, spot, σ2, _, _, b⟩ := b
      rw [a] at b
      cases b
  | some x =>
    rw [h1] at a
    cases h2 : r'.find? badRow with
    | none =>
      rw [h2] at b
      obtain ⟨σ', b⟩ := b
      obtain ⟨m, w, spot, σ2, _, _, a⟩ := a
      rw [a] at b
      cases b
    | some y =>
      rw [h2] at b
      obtain ⟨m, w, spot, σ2, e1, w1, a⟩ := a
      obtain ⟨m', w', spot', σ2', e2, w2, b⟩ := b
      rw [a] at b
      simp only [Option.some.injEq, Prod.mk.injEq, Res.exc.injEq, V.str.injEq, V.int.injEq] at b
      obtain ⟨⟨rfl, rfl⟩, _⟩ := b
      subst e1 e2
      have : w = w' := by
        rcases w1 with ⟨p1, p2⟩ | ⟨p1, p2⟩ | ⟨p1, p2⟩ <;> rcases w2 with ⟨q1, q2⟩ | ⟨q1, q2⟩ | ⟨q1, q2⟩ <;> omega
      subst this
      rfl
open Classical in
/-- what the law's handler answers -/
noncomputable def Wt (ob : Nat → Option (List Int)) (args : List V) : Option V := arg2 args fun t p => if h : (∃ rows, GoodT ob t rows) ∧ p = pEach then some (toldV h.1.choose) else if noRef t = true ∧ p = pYes then some (.tup [.int 0, .str 142]) else none
theorem Wt_each {t : V} {rows : List V} (h : GoodT ob t rows) : Wt ob [t, pEach] = some (toldV rows) := by
  have h2 : (∃ rows, GoodT ob t rows) ∧ pEach = pEach := ⟨⟨rows, h⟩, rfl⟩
  unfold Wt arg2
  dsimp only
  rw [dif_pos h2, GoodT.uniq h2.1.choose_spec h]
theorem Wt_yes {t : V} (h : noRef t = true) : Wt ob [t, pYes] = some (.tup [.int 0, .str 142]) := by
  unfold Wt arg2
  dsimp only
  rw [dif_neg (by rintro ⟨_, e⟩; simp at e), if_pos ⟨h, rfl⟩]
noncomputable def lawΨ (ob : Nat → Option (List Int)) (H : Nat → Nat → Option V) : Psi := fun f args σ => if Nat.beq f 135 then (Wt ob args).map fun v => (.ret v, σ ++ [[]]) else RF ob H 39 f args σ
end
section
variable {c : Cx} {P : Params}
theorem lawΨ_ok (B : Base c P) {H0 : Nat → Nat → Option V} (S0 : SndG c (GH c.ob H0)) : ∀ f args σ r σ', lawΨ c.ob H0 f args σ = some (r, σ') → CallOk c 39 f args σ r σ' := by
  intro f args σ r σ' e
  unfold lawΨ at e
  split at e
  · rename_i hf
    obtain rfl := Nat.eq_of_beq_eq_true hf
    obtain ⟨v, hv, e⟩ := Option.map_eq_some_iff.mp e
    cases e
    replace hv := arg2_inv hv
    obtain ⟨t, p, rfl, hv⟩ := hv
    split at hv
    · rename_i h
      cases hv
      obtain ⟨h1, rfl⟩ := h
      obtain ⟨n, g1, g2, g3⟩ := h1.choose_spec
      exact told_each B S0 g1 g2 g3
    · split at hv
      · rename_i h
        cases hv
        obtain ⟨h1, rfl⟩ := h
        exact told_wrong B S0 h1
      · cases hv
  · exact runF_ok (framed := frm) S0 B.fns 39 f args σ r σ' e
end
end Mine
end
section
open PySem
set_option maxRecDepth 100000
set_option autoImplicit false
set_option linter.unusedVariables false
set_option linter.unusedSimpArgs false
namespace Mine
noncomputable abbrev oneV : V := .tup [.str 60, boolV, .int 3, .bool true]
noncomputable abbrev innerV : V := tMatch 7 oneV [.tup [pYes, .none, oneV]]
noncomputable abbrev outerV : V := tMatch 5 oneV [.tup [pEach, innerV, oneV], .tup [pEach, .none, oneV]]
section
variable {ob : Nat → Option (List Int)} {H : Nat → Nat → Option V}
theorem nt_one : NT ob oneV [] 1 := NT.plain (n := 0) (ch := []) (by decide) (by decide) rfl rfl (fun H => in_const) (fun H => .nil) rfl (Nat.le_refl _)
theorem nt_inner : NT ob innerV (rowV 7 97 :: ([] ++ [])) (1 + 1 + 1) := NT.badM (m := 158) (ch := [oneV, oneV]) rfl (fun H => arm5) (.inl ⟨rfl, rfl⟩) (fun H => chkL2 (nt_one.chk H) (nt_one.chk H)) rfl (by decide)
theorem good_outer : GoodT ob outerV [rowV 7 97] := by
  refine ⟨_, rfl, fun H => .none (ch := [oneV, innerV, oneV, oneV]) rfl ⟨fun _ => step_ok (fn := f_check_arms) (by rfl) (by rfl) rfl arm3, fun e => absurd e (by decide), step_inner rfl rfl in_GN⟩ (.cons (nt_one.chk H) (.cons (nt_inner.chk H) (.cons (nt_one.chk H) (.cons (nt_one.chk H) .nil)))), by decide⟩
noncomputable abbrev lawC (ob : Nat → Option (List Int)) (H : Nat → Nat → Option V) : Cfg := (GH ob H).cfg (lawΨ ob H) f_law.sc
theorem law_bool {σ : Store} : lawΨ ob H 131 [] σ = some (.ret boolV, σ) := by
  unfold lawΨ
  rw [if_neg (by decide)]
  rfl
theorem law_told1 {σ : Store} : lawΨ ob H 135 [outerV, pEach] σ = some (.ret (.tup [.int 7, .str 97]), σ ++ [[]]) := by
  unfold lawΨ
  rw [if_pos (by decide), Wt_each good_outer]
  rfl
theorem law_told2 {σ : Store} : lawΨ ob H 135 [innerV, pYes] σ = some (.ret (.tup [.int 0, .str 142]), σ ++ [[]]) := by
  unfold lawΨ
  rw [if_pos (by decide), Wt_yes (by rfl)]
  rfl
noncomputable abbrev lwB : ISs := f_law.body
theorem lw0 {a : Nat} : exS (lawC ob H) (stAt 0 lwB) [(104, .obj a)] [] = some (.next, [(24, oneV), (39, pEach), (104, .obj a)], []) :=
  st_asgT (vs := [pEach, oneV]) (by kernel_rfl) (ev_tup (evs_cons (ev_tup (evs_pure (by kernel_rfl) (evs_one (ev_call (law_bool (σ := [])) (by rfl) (by kernel_rfl)))) (by rfl)) (evs_one (ev_tup (evs_pure (by kernel_rfl) (evs_call (law_bool (σ := [])) (by rfl) (by kernel_rfl) (by kernel_rfl))) (by rfl)))) (by rfl)) (by kernel_rfl)
theorem lw1 {a : Nat} : exS (lawC ob H) (stAt 1 lwB) [(24, oneV), (39, pEach), (104, .obj a)] [] = some (.next, [(70, innerV), (24, oneV), (39, pEach), (104, .obj a)], []) :=
  st_asg (v := innerV) (by kernel_rfl) (ev_tup (evs_pure (by kernel_rfl) (evs_call (law_bool (σ := [])) (by rfl) (by kernel_rfl) (evs_pure (by kernel_rfl) (evs_pure (by kernel_rfl) (evs_one (ev_tup (evs_one (ev_tup (evs_pure (ev_tup (evs_pure (by kernel_rfl) (evs_call (law_bool (σ := [])) (by rfl) (by kernel_rfl) (by kernel_rfl))) (by rfl)) (by kernel_rfl)) (by rfl))) (by rfl))))))) (by rfl)) (by kernel_rfl)
theorem lw2 {a : Nat} : exS (lawC ob H) (stAt 2 lwB) [(70, innerV), (24, oneV), (39, pEach), (104, .obj a)] [] = some (.next, [(78, outerV), (70, innerV), (24, oneV), (39, pEach), (104, .obj a)], []) :=
  st_asg (v := outerV) (by kernel_rfl) (ev_tup (evs_pure (by kernel_rfl) (evs_call (law_bool (σ := [])) (by rfl) (by kernel_rfl) (by kernel_rfl))) (by rfl)) (by kernel_rfl)
theorem lw3 {a : Nat} : exS (lawC ob H) (stAt 3 lwB) [(78, outerV), (70, innerV), (24, oneV), (39, pEach), (104, .obj a)] [] = some (.next, [(90, pYes), (78, outerV), (70, innerV), (24, oneV), (39, pEach), (104, .obj a)], []) :=
  st_asg (v := pYes) (by kernel_rfl) (ev_tup (evs_pure (by kernel_rfl) (evs_call (law_bool (σ := [])) (by rfl) (by kernel_rfl) (by kernel_rfl))) (by rfl)) (by kernel_rfl)
theorem lw4 {a : Nat} : exS (lawC ob H) (stAt 4 lwB) [(90, pYes), (78, outerV), (70, innerV), (24, oneV), (39, pEach), (104, .obj a)] [] = some (.next, [(90, pYes), (78, outerV), (70, innerV), (24, oneV), (39, pEach), (104, .obj a)], [[], []]) :=
  st_if (c := false) (σ1 := [[], []]) (evT_of (evOr_f (ev_cmp (w := .tup [.int 7, .str 97]) (σ2 := [[]]) (ev_call (law_told1 (σ := [])) (by rfl) (by kernel_rfl)) (by kernel_rfl) (by kernel_rfl)) (evOr_one.trans (ev_cmp (w := .tup [.int 0, .str 142]) (σ2 := [[], []]) (ev_call (law_told2 (σ := [[]])) (by rfl) (by kernel_rfl)) (by kernel_rfl) (by kernel_rfl))))) (by kernel_rfl)
end
end Mine
end
section
open PySem
set_option maxRecDepth 100000
set_option autoImplicit false
set_option linter.unusedVariables false
set_option linter.unusedSimpArgs false
namespace Mine
noncomputable abbrev lwL : ISs := forB (stAt 5 lwB)
noncomputable abbrev lwT : Tgt := forT (stAt 5 lwB)
noncomputable def lwE : IE := match stAt 5 lwB with
  | .forS _ (.range _ _ e _) _ _ => e
  | _ => .none 0 ⟨0, 0, 0, 0⟩
structure LL (a : Nat) (γ : Env1) : Prop where
  script : γ.lookup 104 = some (.obj a)
  each : γ.lookup 39 = some pEach
theorem LL.put {a x : Nat} {v : V} {γ : Env1} (h : LL a γ) (hx : x = 4 ∨ x = 66 ∨ x = 54 ∨ x = 14) : LL a ((x, v) :: fl x γ) := by
  have h1 : x ≠ 104 := by rintro rfl; revert hx; decide
  have h2 : x ≠ 39 := by rintro rfl; revert hx; decide
  exact ⟨look_put h1 h.script, look_put h2 h.each⟩
theorem loopC_filter {body : V → Store → Option (Option V × Store)} {G : List V} {f : Nat} {σ : Store} (hf : σ[f]? = some G) (hb : ∀ x ∈ G, body x σ = some (if badRow x then some x else none, σ)) :
    ∀ (n i : Nat), i ≤ G.length → G.length < i + n → loopC body (.lst f) n i σ = some ((G.drop i).filter badRow, σ)
  | 0, i, h0, h => by omega
  | n + 1, i, h0, h => by
    by_cases hi : i < G.length
    · rw [loopC_step (x := G[i]) (r := if badRow G[i] then some G[i] else none) (by simp only [srcAt, hf, List.getElem?_eq_getElem hi]) (hb _ (List.getElem_mem hi)), loopC_filter hf hb n (i + 1) (by omega) (by omega)]
      rw [List.drop_eq_getElem_cons hi]
      cases hbr : badRow G[i] with
      | true => rw [List.filter_cons, hbr]; rfl
      | false => rw [List.filter_cons, hbr]; rfl
    · rw [loopC_end (by simp only [srcAt, hf]; rw [List.getElem?_eq_none (by omega)]), List.drop_eq_nil_of_le (by omega)]
      rfl
section
variable {ob : Nat → Option (List Int)} {H : Nat → Nat → Option V}
theorem law133 {a i : Nat} {l : List Int} {σ : Store} (ho : ob a = some l) (hl : l.length ≤ 1000) (hi : i ≤ 1000) : ∃ x y, lawΨ ob H 133 [.obj a, .int i] σ = some (.ret (.ref σ.length), σ ++ [[.int x, .int y]]) := by
  obtain ⟨x, y, e⟩ := pool_at (H := H) (k := 38) (σ := σ) ho hl hi
  refine ⟨x, y, ?_⟩
  unfold lawΨ
  rw [if_neg (by decide)]
  exact e
theorem law132 {x y : Int} {σ : Store} : ∃ t G x' y', lawΨ ob H 132 [.ref (σ.length + 1), .int 3, .ref σ.length] (σ ++ [[], [.int x, .int y]]) = some (.ret t, σ ++ [G, [.int x', .int y']]) ∧ GoodT ob t G ∧ G.length ≤ 400 := by
  obtain ⟨t, x', y', G, n, e, N, hn⟩ := node3 (ob := ob) (H := H) 32 (σ.length + 1) σ.length (σ ++ [[], [.int x, .int y]]) x y [] (by omega) (by simp) (by simp) rfl (by decide)
  have := N.len
  refine ⟨t, G, x', y', ?_, ⟨n, N.nr, N.chk, by omega⟩, by omega⟩
  unfold lawΨ
  rw [if_neg (by decide)]
  rw [show RF ob H 39 132 [.ref (σ.length + 1), .int 3, .ref σ.length] (σ ++ [[], [.int x, .int y]]) = _ from e]
  simp
theorem lwS {i : Nat} {n a : Nat} {l : List Int} {γ : Env1} {σ : Store} (ho : ob a = some l) (hl : l.length ≤ 1000) (hi : i ≤ 1000) (L : LL a γ) (h4 : γ.lookup 4 = some (.int i)) :
    ∃ γ' σ', exSs (lawC ob H) lwL γ σ = some (.next, γ', σ') ∧ LL a γ' := by
  have hb : (GH ob H).n = 161 := by rfl
  have hsc : f_law.sc = ⟨[104, 39, 24, 70, 78, 90, 4, 66, 54, 14], [], [131, 135, 82, 21, 22, 19, 132, 133]⟩ := rfl
  have e : lwL = .cons (stAt 0 lwL) (.cons (stAt 1 lwL) (.cons (stAt 2 lwL) (.cons (stAt 3 lwL) .nil))) := by rfl
  obtain ⟨x, y, e1⟩ := law133 (H := H) (σ := σ ++ [[]]) (i := i) ho hl hi
  obtain ⟨t, G, x', y', e2, good, hG⟩ := law132 (ob := ob) (H := H) (x := x) (y := y) (σ := σ)
  have s0 : exS (lawC ob H) (stAt 0 lwL) γ σ = some (.next, (66, .ref σ.length) :: fl 66 γ, σ ++ [[]]) := by
    simp [stAt, stDrop, lwL, forB, lwB, f_law, exS_asg, exS_asgT, exS_asgI, exS_expr, exS_exprC, exS_ifS, exS_forS, exS_whileS, exS_ret, exS_raise, exS_opq, evE_none, evE_bool, evE_int, evE_str, evE_lv, evE_gi, evE_tup, evE_lst, evE_idx, evE_slc, evE_rev, evE_bin, evE_cmp, evE_and, evE_or, evE_not, evE_neg, evE_ite, evE_call, evE_bcall, evE_meth, evE_comp_no, evE_comp_yes, evE_hook, evE_opq, evEs_nil, evEs_cons, asgOk_none, asgOk_bool, asgOk_int, asgOk_str, asgOk_lv, asgOk_gi, asgOk_tup, asgOk_lst, asgOk_idx, asgOk_slc, asgOk_rev, asgOk_bin, asgOk_cmp, asgOk_and, asgOk_or, asgOk_not, asgOk_neg, asgOk_ite, asgOk_call, asgOk_bcall, asgOk_meth, asgOk_hook, asgOk_comp, mkLst, okL, lim, nble, nblt, nbeq, store, Gx.cfg, fl]
  have L1 := L.put (x := 66) (v := .ref σ.length) (by decide)
  have h41 : List.lookup 4 ((66, .ref σ.length) :: fl 66 γ) = some (.int i) := look_put (by decide) h4
  have h66 : List.lookup 66 ((66, .ref σ.length) :: fl 66 γ) = some (.ref σ.length) := self_lookup
  generalize (66, V.ref σ.length) :: fl 66 γ = γ1 at s0 L1 h41 h66
  have s1 : exS (lawC ob H) (stAt 1 lwL) γ1 (σ ++ [[]]) = some (.next, (54, t) :: fl 54 γ1, σ ++ [G, [.int x', .int y']]) := by
    simp only [List.append_assoc, List.cons_append, List.nil_append, List.length_append, List.length_cons, List.length_nil, Nat.zero_add] at e1
    simp [stAt, stDrop, lwL, forB, lwB, f_law, exS_asg, exS_asgT, exS_asgI, exS_expr, exS_exprC, exS_ifS, exS_forS, exS_whileS, exS_ret, exS_raise, exS_opq, evE_none, evE_bool, evE_int, evE_str, evE_lv, evE_gi, evE_tup, evE_lst, evE_idx, evE_slc, evE_rev, evE_bin, evE_cmp, evE_and, evE_or, evE_not, evE_neg, evE_ite, evE_call, evE_bcall, evE_meth, evE_comp_no, evE_comp_yes, evE_hook, evE_opq, evEs_nil, evEs_cons, e1, e2, L1.script, h41, h66, asgOk_none, asgOk_bool, asgOk_int, asgOk_str, asgOk_lv, asgOk_gi, asgOk_tup, asgOk_lst, asgOk_idx, asgOk_slc, asgOk_rev, asgOk_bin, asgOk_cmp, asgOk_and, asgOk_or, asgOk_not, asgOk_neg, asgOk_ite, asgOk_call, asgOk_bcall, asgOk_meth, asgOk_hook, asgOk_comp, nbeq, store, Gx.cfg, fl]
  have L2 := L1.put (x := 54) (v := t) (by decide)
  have h662 : List.lookup 66 ((54, t) :: fl 54 γ1) = some (.ref σ.length) := look_put (by decide) h66
  have h54 : List.lookup 54 ((54, t) :: fl 54 γ1) = some t := self_lookup
  generalize (54, t) :: fl 54 γ1 = γ2 at s1 L2 h662 h54
  have s2 : exS (lawC ob H) (stAt 2 lwL) γ2 (σ ++ [G, [.int x', .int y']]) = some (.next, (14, .ref (σ.length + 2)) :: fl 14 γ2, σ ++ [G, [.int x', .int y'], G.filter badRow]) := by
    have hwf : compWf 161 f_law.sc [(7, .local), (26, .local)] ⟨[26], [], []⟩ [] = true := by rfl
    have hf : (σ ++ [G, [.int x', .int y']])[σ.length]? = some G := by simp
    have hfl : (G.filter badRow).length ≤ 1000000 := Nat.le_trans (List.length_filter_le _ _) (by omega)
    have hrow : ∀ z ∈ G, isRow z = true := by
      obtain ⟨n, _, hc, _⟩ := good
      exact fun z hz => List.all_eq_true.mp (hc H).rows z hz
    have hlp := fun body hb => loopC_filter (body := body) hf hb FU 0 (Nat.zero_le _) (by unfold FU; omega)
    rw [hsc] at hwf
    simp [stAt, stDrop, lwL, forB, lwB, f_law, exS_asg, exS_asgT, exS_asgI, exS_expr, exS_exprC, exS_ifS, exS_forS, exS_whileS, exS_ret, exS_raise, exS_opq, evE_none, evE_bool, evE_int, evE_str, evE_lv, evE_gi, evE_tup, evE_lst, evE_idx, evE_slc, evE_rev, evE_bin, evE_cmp, evE_and, evE_or, evE_not, evE_neg, evE_ite, evE_call, evE_bcall, evE_meth, evE_comp_no, evE_comp_yes, evE_hook, evE_opq, evEs_nil, evEs_cons, asgOk_none, asgOk_bool, asgOk_int, asgOk_str, asgOk_lv, asgOk_gi, asgOk_tup, asgOk_lst, asgOk_idx, asgOk_slc, asgOk_rev, asgOk_bin, asgOk_cmp, asgOk_and, asgOk_or, asgOk_not, asgOk_neg, asgOk_ite, asgOk_call, asgOk_bcall, asgOk_meth, asgOk_hook, asgOk_comp, memN, nbeq, Gx.cfg, hb, hwf, oneT, h662, srcOf, srcOk]
    rw [hlp]
    · simp [mkLst, okL, lim, nble, hfl, store, nbeq, fl]
    · intro z hz
      have hr := hrow z hz
      obtain ⟨spot, w, rfl⟩ : ∃ spot w, z = rowV spot w := isRow_inv hr
      cases hw : Nat.beq w 0 <;> simp [bindT, store, evE_none, evE_bool, evE_int, evE_str, evE_lv, evE_gi, evE_tup, evE_lst, evE_idx, evE_slc, evE_rev, evE_bin, evE_cmp, evE_and, evE_or, evE_not, evE_neg, evE_ite, evE_call, evE_bcall, evE_meth, evE_comp_no, evE_comp_yes, evE_hook, evE_opq, List.lookup, idxV, itemsOf, cmpV_eq, cmpV_ne, cmpV_lt, cmpV_ge, cmpV_gt, cmpV_is, cmpV_isnot, cmpV_in, cmpV_inS, eqV_tup, eqV_ref, eqV_nt, eqV_tn, eqV_nn, eqV_int, eqV_bool, eqV_str, eq0_int, eq0_bool, eq0_str, truth, nblt, hb, badRow, hw]
  have L3 := L2.put (x := 14) (v := .ref (σ.length + 2)) (by decide)
  have h543 : List.lookup 54 ((14, .ref (σ.length + 2)) :: fl 14 γ2) = some t := look_put (by decide) h54
  have h14 : List.lookup 14 ((14, .ref (σ.length + 2)) :: fl 14 γ2) = some (.ref (σ.length + 2)) := self_lookup
  generalize (14, V.ref (σ.length + 2)) :: fl 14 γ2 = γ3 at s2 L3 h543 h14
  have s3 : ∃ σ', exS (lawC ob H) (stAt 3 lwL) γ3 (σ ++ [G, [.int x', .int y'], G.filter badRow]) = some (.next, γ3, σ') := by
    have ht : lawΨ ob H 135 [t, pEach] (σ ++ [G, [.int x', .int y'], G.filter badRow]) = some (.ret (toldV G), σ ++ [G, [.int x', .int y'], G.filter badRow, []]) := by
      unfold lawΨ
      rw [if_pos (by decide), Wt_each good]
      simp
    have g1 : (σ ++ [G, [.int x', .int y'], G.filter badRow, [], []])[σ.length + 2]? = some (G.filter badRow) := by rw [List.getElem?_append_right (by omega), Nat.add_sub_cancel_left]; rfl
    have g2 : (σ ++ [G, [.int x', .int y'], G.filter badRow, [], []])[σ.length + 4]? = some [] := by rw [List.getElem?_append_right (by omega), Nat.add_sub_cancel_left]; rfl
    refine ⟨σ ++ [G, [.int x', .int y'], G.filter badRow, [], []], ?_⟩
    have hd : (G.filter badRow).head? = G.find? badRow := List.head?_filter
    cases hfl : G.filter badRow with
    | nil =>
      rw [hfl] at hd ht g1 g2
      have tv : toldV G = .none := by
        unfold toldV
        rw [← hd]
        rfl
      rw [tv] at ht
      simp [stAt, stDrop, lwL, forB, lwB, f_law, exSs_nil, exSs_cons, exS_asg, exS_asgT, exS_asgI, exS_expr, exS_exprC, exS_ifS, exS_forS, exS_whileS, exS_ret, exS_raise, exS_opq, evT, evE_none, evE_bool, evE_int, evE_str, evE_lv, evE_gi, evE_tup, evE_lst, evE_idx, evE_slc, evE_rev, evE_bin, evE_cmp, evE_and, evE_or, evE_not, evE_neg, evE_ite, evE_call, evE_bcall, evE_meth, evE_comp_no, evE_comp_yes, evE_hook, evE_opq, evEs_nil, evEs_cons, ht, h543, h14, g1, g2, L3.each, mkLst, okL, lim, nble, nbeq, cmpV_eq, cmpV_ne, cmpV_lt, cmpV_ge, cmpV_gt, cmpV_is, cmpV_isnot, cmpV_in, cmpV_inS, eqV_tup, eqV_ref, eqV_nt, eqV_tn, eqV_nn, eqV_int, eqV_bool, eqV_str, eq0_int, eq0_bool, eq0_str, truth, Gx.cfg]
    | cons z zs =>
      rw [hfl] at hd ht g1 g2
      have tv : toldV G = z := by
        unfold toldV
        rw [← hd]
        rfl
      obtain ⟨spot, w, rfl⟩ : ∃ spot w, z = rowV spot w := by
        obtain ⟨n, _, hc, _⟩ := good
        have hr : isRow z = true := List.all_eq_true.mp (hc H).rows z (List.mem_filter.mp (show _ ∈ G.filter badRow by rw [hfl]; exact List.mem_cons_self)).1
        exact isRow_inv hr
      rw [tv] at ht
      simp [stAt, stDrop, lwL, forB, lwB, f_law, exSs_nil, exSs_cons, exS_asg, exS_asgT, exS_asgI, exS_expr, exS_exprC, exS_ifS, exS_forS, exS_whileS, exS_ret, exS_raise, exS_opq, evT, evE_none, evE_bool, evE_int, evE_str, evE_lv, evE_gi, evE_tup, evE_lst, evE_idx, evE_slc, evE_rev, evE_bin, evE_cmp, evE_and, evE_or, evE_not, evE_neg, evE_ite, evE_call, evE_bcall, evE_meth, evE_comp_no, evE_comp_yes, evE_hook, evE_opq, evEs_nil, evEs_cons, ht, h543, h14, g1, g2, L3.each, mkLst, okL, lim, nble, nbeq, cmpV_eq, cmpV_ne, cmpV_lt, cmpV_ge, cmpV_gt, cmpV_is, cmpV_isnot, cmpV_in, cmpV_inS, eqV_tup, eqV_ref, eqV_nt, eqV_tn, eqV_nn, eqV_int, eqV_bool, eqV_str, eqL_nil, eqL_cons, allEq0_nil, allEq0_cons, eq0_int, eq0_bool, eq0_str, idxV, itemsOf, truth, Gx.cfg]
  obtain ⟨σ', s3⟩ := s3
  refine ⟨γ3, σ', ?_, L3⟩
  rw [e, exSs_next s0, exSs_next s1, exSs_next s2, exSs_next s3]
  rw [exSs_nil]
theorem law_loop {a : Nat} {l : List Int} (ho : ob a = some l) (hl : l.length ≤ 1000) (N : Nat) (hN : N ≤ 1000) : ∀ (r i f : Nat) (γ : Env1) (σ : Store), i + r = N → r < f → LL a γ →
    ∃ γ' σ', loopF (fun x γ₁ σ₁ => (bindT (lawC ob H).sc lwT x γ₁).bind fun γ' => exSs (lawC ob H) lwL γ' σ₁) (.rng N) f i γ σ = some (.next, γ', σ') ∧ LL a γ'
  | 0, i, f, γ, σ, hi, hf, L => by
    obtain ⟨f, rfl⟩ : ∃ f', f = f' + 1 := ⟨f - 1, by omega⟩
    exact ⟨γ, σ, loopF_end (by simp only [srcAt]; rw [if_neg (by rw [nblt]; simp; omega)]), L⟩
  | r + 1, i, f, γ, σ, hi, hf, L => by
    obtain ⟨f, rfl⟩ : ∃ f', f = f' + 1 := ⟨f - 1, by omega⟩
    have hbd : bindT (lawC ob H).sc lwT (.int i) γ = some ((4, .int i) :: fl 4 γ) := by
      have : bindT (lawC ob H).sc lwT (.int i) γ = store f_law.sc 4 (.int i) γ := by rfl
      rw [this]
      have hsc : f_law.sc = ⟨[104, 39, 24, 70, 78, 90, 4, 66, 54, 14], [], [131, 135, 82, 21, 22, 19, 132, 133]⟩ := rfl
      simp [store, hsc, fl]
    obtain ⟨γ1, σ1, e, L1⟩ := lwS (H := H) (n := 0) (σ := σ) ho hl (i := i) (by omega) (L.put (x := 4) (v := .int i) (by decide)) self_lookup
    obtain ⟨γ2, σ2, e2, L2⟩ := law_loop ho hl N hN r (i + 1) f γ1 σ1 (by omega) (by omega) L1
    refine ⟨γ2, σ2, ?_, L2⟩
    rw [loopF_step (x := .int i) (γ' := γ1) (σ' := σ1) (by simp only [srcAt]; rw [if_pos (by rw [nblt]; simp; omega)]) (by rw [hbd]; exact e)]
    exact e2
theorem l5_eq : ∃ rp p p', stAt 5 lwB = .forS lwT (.range 82 rp lwE p) lwL p' := ⟨_, _, _, rfl⟩
theorem lwB_eq : lwB = .cons (stAt 0 lwB) (.cons (stAt 1 lwB) (.cons (stAt 2 lwB) (.cons (stAt 3 lwB) (.cons (stAt 4 lwB) (.cons (stAt 5 lwB) (.cons (stAt 6 lwB) .nil)))))) := by rfl
theorem law_runs {a : Nat} {l : List Int} (ho : ob a = some l) (hl : l.length ≤ 1000) : ∃ γ' σ', exSs (lawC ob H) f_law.body [(104, .obj a)] [] = some (.ret (.bool true), γ', σ') := by
  have L0 : LL a [(90, pYes), (78, outerV), (70, innerV), (24, oneV), (39, pEach), (104, .obj a)] := ⟨rfl, rfl⟩
  obtain ⟨N, hN, s5⟩ : ∃ N, N ≤ 2 ∧ exS (lawC ob H) (stAt 5 lwB) [(90, pYes), (78, outerV), (70, innerV), (24, oneV), (39, pEach), (104, .obj a)] [[], []] = loopF (fun x γ₁ σ₁ => (bindT (lawC ob H).sc lwT x γ₁).bind fun γ' => exSs (lawC ob H) lwL γ' σ₁) (.rng N) FU 0 [(90, pYes), (78, outerV), (70, innerV), (24, oneV), (39, pEach), (104, .obj a)] [[], []] := by
    have ho' : (GH ob H).ob a = some l := ho
    have hl' : l.length ≤ 1000000 := by omega
    have b1 : (GH ob H).bi .len 19 = true := by rfl
    have b2 : (GH ob H).bi .max 21 = true := by rfl
    have b3 : (GH ob H).bi .min 22 = true := by rfl
    have b4 : (GH ob H).bi .range 82 = true := by rfl
    have he : ∃ N, N ≤ 2 ∧ evE (lawC ob H) f_law.sc lwE [(90, pYes), (78, outerV), (70, innerV), (24, oneV), (39, pEach), (104, .obj a)] [[], []] = some (.int (N : Nat), [[], []]) := by
      by_cases h2 : l.length < 2
      · refine ⟨1, by decide, ?_⟩
        have h2' : (l.length : Int) < 2 := by omega
        have h3 : ¬ (1 : Int) < l.length := by omega
        simp [lwE, stAt, stDrop, lwB, f_law, evE_none, evE_bool, evE_int, evE_str, evE_lv, evE_gi, evE_tup, evE_lst, evE_idx, evE_slc, evE_rev, evE_bin, evE_cmp, evE_and, evE_or, evE_not, evE_neg, evE_ite, evE_call, evE_bcall, evE_meth, evE_comp_no, evE_comp_yes, evE_hook, evE_opq, evEs_nil, evEs_cons, b1, b2, b3, ho', hl', h2', h3, itemsOf, bcallV_len, bcallV_list, bcallV_tupT, bcallV_tupL, bcallV_int, bcallV_bool, bcallV_max, bcallV_min, okL, lim, nble, List.lookup, Gx.cfg]
      · refine ⟨2, by decide, ?_⟩
        have h2' : ¬ (l.length : Int) < 2 := by omega
        simp [lwE, stAt, stDrop, lwB, f_law, evE_none, evE_bool, evE_int, evE_str, evE_lv, evE_gi, evE_tup, evE_lst, evE_idx, evE_slc, evE_rev, evE_bin, evE_cmp, evE_and, evE_or, evE_not, evE_neg, evE_ite, evE_call, evE_bcall, evE_meth, evE_comp_no, evE_comp_yes, evE_hook, evE_opq, evEs_nil, evEs_cons, b1, b2, b3, ho', hl', h2', itemsOf, bcallV_len, bcallV_list, bcallV_tupT, bcallV_tupL, bcallV_int, bcallV_bool, bcallV_max, bcallV_min, okL, lim, nble, List.lookup, Gx.cfg]
    obtain ⟨N, hN, he⟩ := he
    refine ⟨N, hN, ?_⟩
    obtain ⟨rp, p, p', e5⟩ := l5_eq
    rw [e5]
    rw [exS_forS]
    have hmm : (lawC ob H).mm = true := rfl
    rw [hmm, if_pos rfl]
    have hit : itSrc (lawC ob H) (lawC ob H).sc (.range 82 rp lwE p) [(90, pYes), (78, outerV), (70, innerV), (24, oneV), (39, pEach), (104, .obj a)] [[], []] = some (.rng N, [[], []]) := by
      unfold itSrc
      dsimp only
      rw [if_pos (by rfl)]
      rw [show evE (lawC ob H) (lawC ob H).sc lwE [(90, pYes), (78, outerV), (70, innerV), (24, oneV), (39, pEach), (104, .obj a)] [[], []] = _ from he, Option.bind_some]
      dsimp only
      rw [if_pos (by simp; omega)]
      rfl
    rw [hit, Option.bind_some]
  obtain ⟨γ', σ', e, L⟩ := law_loop (H := H) ho hl N (by omega) N 0 FU _ [[], []] (by omega) (by unfold FU; omega) L0
  refine ⟨γ', σ', ?_⟩
  show exSs (lawC ob H) lwB _ _ = _
  rw [lwB_eq, exSs_next lw0, exSs_next lw1, exSs_next lw2, exSs_next lw3, exSs_next lw4, exSs_next (s5.trans e)]
  rfl
end
end Mine
end
section
open PySem PySem.W PyProof.Rows PySem.Calls
set_option maxRecDepth 100000
set_option autoImplicit false
set_option linter.unusedVariables false
namespace Mine

theorem rvL_ints {T : Tab} {ρ : List Addr} {h : Heap} {vs : List Value} {xs : List Int} (hI : IntsAre vs xs) : RvL T ρ h vs (xs.map V.int) := by
  induction hI with
  | nil => trivial
  | cons n t _ ih => exact ⟨.int _ _, ih⟩

noncomputable abbrev cx0 (prog : Program) (w : World) (h₀ : Heap) (mg mb : Str → Option Value) (hg : h₀.Ns mainGlobals mg) (hb : h₀.Ns builtinsNs mb) (lim : h₀.NoLimit) (a : Addr) (l : List Int) {vals : List Value} {n : Nat}
    (hl : h₀.get? a = some (W.listOf vals.toArray n)) (hi : IntsAre vals l) : Cx where
  T := T0
  prog := prog
  w := w
  h₀ := h₀
  mg := mg
  mb := mb
  hg := hg
  hb := hb
  lim := lim
  xcls := .ref 45
  ob := fun x => if x = a then some l else none
  hob := fun x l' e => by
    split at e
    · rename_i hx
      cases e
      subst hx
      exact ⟨vals, n, hl, rvL_ints hi⟩
    · cases e

section
variable {P : Params} {prog : Program} {w : World} {h₀ h₁ : Heap} {mg mb : Str → Option Value} {a L fa : Addr} {l : List Int} {vals : List Value} {n : Nat}

theorem base0 (hg : h₀.Ns mainGlobals mg) (hb : h₀.Ns builtinsNs mb) (lim : h₀.NoLimit) (hbt : ∀ x : Str, x ≠ "__name__" → mb x = bootBuiltins x) (X : (KF P).In h₀)
    (hl : h₀.get? a = some (W.listOf vals.toArray n)) (hi : IntsAre vals l) : Base (cx0 prog w h₀ mg mb hg hb lim a l hl hi) P := by
  refine ⟨rfl, X, rfl, ?_, fun b x e => ?_, fun x i e => ?_⟩
  · exact (hbt _ (by decide)).trans (by rfl)
  · cases b <;> obtain rfl := Nat.eq_of_beq_eq_true e <;> exact ⟨mg_none_of X hg (by rfl), (hbt _ (by decide)).trans (by rfl)⟩
  · unfold giF at e
    split at e
    · rename_i hx
      cases e
      obtain rfl := Nat.eq_of_beq_eq_true hx
      exact ⟨_, mg_of X hg (by rfl)⟩
    · cases e

theorem law_walk (hg : h₀.Ns mainGlobals mg) (hb : h₀.Ns builtinsNs mb) (lim : h₀.NoLimit) (hbt : ∀ x : Str, x ≠ "__name__" → mb x = bootBuiltins x) (X : (KF P).In h₀)
    (hl : h₀.get? a = some (W.listOf vals.toArray n)) (hi : IntsAre vals l) (hlen : l.length ≤ 1000) {name : Str} {scope : Scope} {cd : Value} (hk : scope.kind = .function) (hn : fnNames T0 f_law scope.names = true)
    (F : Fr h₀ L h₁ (fun x => List.lookup x [(T0.nm 104, Value.ref a)].reverse))
    {s : Shared} (hs : s.heap = h₁) {Q : Flow → Shared → Prop} {E : Value → Shared → Prop} (fin : ∀ h' tk, (∀ b o, h₀.get? b = some o → h'.get? b = some o) → Q (.ret (.bool true)) { s with heap := h', toks := tk }) :
    wpAny (model prog w) (callerA.deeper (envOf name scope L fa cd)) (execs (dSs T0 f_law.body) (envOf name scope L fa cd)) Q E s := by
  subst hs
  let c := cx0 prog w h₀ mg mb hg hb lim a l hl hi
  have B : Base c P := base0 hg hb lim hbt X hl hi
  have S0 : SndG c (GH c.ob fun _ _ => none) := B.sndG fun y a v e => by cases e
  have S : Snd c 39 (lawC c.ob fun _ _ => none) := S0.snd (lawΨ_ok B S0) f_law.sc
  have hL : h₀.get? L = none := by
    cases q : h₀.get? L with
    | none => rfl
    | some o => exact absurd (Heap.lt_size q) (Nat.not_lt.mpr F.above)
  have e0 : (envOf name scope L fa cd).cells = [] := rfl
  have fx : Fx c 39 (lawC c.ob fun _ _ => none) (envOf name scope L fa cd) (callerA.deeper (envOf name scope L fa cd)) [] h₀ := by
    refine ⟨fun b o e => e, ⟨fun x h => h, fun x h => h, hL, fun x _ a e => by rw [e0] at e; cases e⟩, ⟨fun _ => rfl, .inl rfl, (by show 1 + claimMargin + 1 + 39 + 8 < recursionLimit; decide), (by show 4 + 3 + 8 * 39 + 80 < cLine; decide)⟩, rfl, ⟨[], rfl, fun e he => by cases he⟩, ⟨[], ⟨rfl, .nil, fun k a l h1 => by simp at h1⟩⟩, S⟩
  have O : Ok c [] [] s.heap := ⟨⟨rfl, .nil, fun k a l h1 => by simp at h1⟩, F.keep, fun a ha => by cases ha⟩
  have G : Grow [] h₀ [] s.heap := ⟨⟨[], rfl, fun a ha => by cases ha⟩, fun b o e _ => ⟨o.slots, F.keep b o e, fun _ => rfl⟩, fun b o e => ⟨o, F.keep b o e⟩⟩
  unfold fnNames at hn
  simp only [Bool.and_eq_true] at hn
  obtain ⟨⟨⟨⟨⟨k1, k2⟩, k3⟩, k4⟩, k5⟩, k6⟩ := hn
  have low : ∀ x ∈ f_law.params ++ f_law.sc.loc ++ f_law.sc.cel ++ f_law.sc.glb, x < T0.n := fun x hx => Nat.le_of_ble_eq_true (List.all_eq_true.mp k1 x hx)
  have En0 : En c f_law.sc (envOf name scope L fa cd) [(104, .obj a)] [] s.heap := by
    refine ⟨hk, rfl, rfl, fun x hx => ⟨low x (by simp [hx]), eqK_ok (List.all_eq_true.mp k2 x hx)⟩, fun x hx => (by cases hx), fun x hx => ⟨low x (by simp [hx]), eqK_ok (List.all_eq_true.mp k4 x hx)⟩, fun x hx => (by cases hx), ⟨_, F.ns⟩, fun x v hv => ?_⟩
    rw [List.lookup_cons] at hv
    cases hx : x == 104 with
    | false => rw [hx] at hv; cases hv
    | true =>
      rw [hx] at hv
      cases hv
      obtain rfl := beq_iff_eq.mp hx
      refine ⟨.ref a, .obj a, .inl ⟨by decide, _, F.ns, ?_⟩⟩
      show List.lookup (T0.nm 104) [(T0.nm 104, Value.ref a)] = _
      rw [List.lookup_cons, beq_self_eq_true]
  obtain ⟨γ', σ', hrun⟩ := law_runs (ob := c.ob) (H := fun _ _ => none) (a := a) (l := l) (if_pos rfl) hlen
  refine gss_all fx f_law.body _ [] _ γ' σ' s [] Q E hrun O En0 G ?_
  intro ρ' h' tk g O' X'
  intro x rx
  cases rx
  exact fin h' tk O'.base

theorem well_list {h : Heap} {xs : List WData} (x : Well P h (.ref a) (.list xs)) : ∃ vs : List Value, h.get? a = some (W.listOf vs.toArray 0) := by
  cases x with
  | list e _ => exact ⟨_, e⟩
theorem list_same {h : Heap} {vs : List Value} {o : Obj} (x : h.IsList a vs.toArray) (e : h.get? a = some o) {ws : List Value} (ho : o = W.listOf ws.toArray 0) : o = W.listOf vs.toArray 0 := by
  obtain ⟨o', e', _, n, hd⟩ := x
  rw [e] at e'
  cases e'
  subst ho
  cases hd
  rfl
end
end Mine
end
section
open PySem PySem.W PyProof.Rows PySem.Calls
set_option maxRecDepth 100000
set_option maxHeartbeats 8000000
set_option autoImplicit false
set_option linter.unusedVariables false
namespace Mine
noncomputable def looseN : List Str := (["LendError", "PatternFault", "BITS", "is_signed", "least", "greatest", "parts_of", "parts_of_types", "rebuilt", "rebuilt_types", "substituted", "with_regions", "field_rows", "fields_of", "MOST_DEEP", "bare", "opened", "bounds_of", "ranges_of", "constructors", "parts_of_usefulness", "taken", "narrowed", "rest_of", "are_wild", "is_useful", "is_useful_by_parts", "rebuilt_usefulness", "left_out", "left_out_wild", "has_value", "missing", "useless", "inner_of", "inner_of_match", "inner_of_block", "check_arms", "check_lets", "check_matches", "TypedFn", "_law_pool", "_law_take", "_law_one", "_law_bool", "_law_arms", "_law_node", "_law_told"] : List String).map Str.ofString
noncomputable abbrev rw0 : OpenRow := PySem.Challenge.rw_ot0028_01.row
noncomputable abbrev HH : Hook := kHook KF KA KA_ok
theorem sideF (w : World) (os : OsState) : (topFrom treeTable PySem.Challenge.pw_ot0028_01 (w.withFollow "special-get-raises" false) 4370 ⟨boot_heap w.params, #[], boot_drawn, boot_toks, os⟩).map (fun s => (openSeen qv looseN (importedModules PySem.Challenge.pw_ot0028_01.main.body) (fun s => xlAt qv [] s && recOk (RowW.records rw0.toRowW) s) true s, Hook.obs HH s)) = some (openGood qv looseN, Hook.val HH (w.withFollow "special-get-raises" false)) := by
  unfold topFrom
  rw [PySem.W.Fast.te14082659384304107361, PySem.W.Fast.te14364793385576792824, PySem.W.Fast.te4187177175401517315]
  kernel_rfl
theorem sideT (w : World) (os : OsState) : (topFrom treeTable PySem.Challenge.pw_ot0028_01 (w.withFollow "special-get-raises" true) 4370 ⟨boot_heap w.params, #[], boot_drawn, boot_toks, os⟩).map (fun s => (openSeen qv looseN (importedModules PySem.Challenge.pw_ot0028_01.main.body) (fun s => xlAt qv [] s && recOk (RowW.records rw0.toRowW) s) true s, Hook.obs HH s)) = some (openGood qv looseN, Hook.val HH (w.withFollow "special-get-raises" true)) := by
  unfold topFrom
  rw [PySem.W.Fast.te14082659384304107361, PySem.W.Fast.te14364793385576792824, PySem.W.Fast.te4187177175401517315]
  kernel_rfl
theorem opens (w : World) : ∃ os, fencedOpening treeTable PySem.Challenge.pw_ot0028_01 w 4370 = some ⟨boot_heap w.params, #[], boot_drawn, boot_toks, os⟩ := by
  obtain ⟨⟨h, gs, d, k, os⟩, e, e'⟩ := Option.map_eq_some_iff.mp (boot_open (p := PySem.Challenge.pw_ot0028_01) (N := 4370) rfl (by decide) (fun s => by rfl) w)
  obtain ⟨rfl, rfl, rfl, rfl⟩ : h = boot_heap w.params ∧ gs = #[] ∧ d = boot_drawn ∧ k = boot_toks := by simpa using e'
  exact ⟨os, e⟩
theorem left_ok : LeftO PySem.Challenge.pw_ot0028_01 qv looseN (fun s => xlAt qv [] s && recOk (RowW.records rw0.toRowW) s) (Hook.obs HH) (Hook.val HH) 4370 true :=
  LeftO.of_split "special-get-raises" (fun w => by
    obtain ⟨os, e⟩ := opens w
    rw [e]
    exact congrArg some (Prod.ext (sideF w os) (sideT w os)))
/-- the looks at the law, one by one -/
theorem said_ok : PySem.Challenge.rw_ot0028_01.wellSaid = true := by
  unfold OpenLaw.wellSaid OpenRow.wellSaid OpenRow.partSaid looksOpen
  simp only [Bool.and_eq_true]
  repeat' apply And.intro
  all_goals decide +kernel
end Mine
end
section
open PySem PySem.W PyProof.Rows
set_option maxRecDepth 100000
set_option maxHeartbeats 8000000
theorem PySem.Challenge.cw_ot0028_01_holds : PySem.Challenge.rw_ot0028_01.Holds := by
  w_on
  refine holds_law Mine.said_ok fun said => ?_
  refine holds_open (q := Mine.qv) (loose := Mine.looseN) (Xt := fun s => xlAt Mine.qv [] s && recOk (RowW.records Mine.rw0.toRowW) s) (XP := XL Mine.qv []) (Yf := Hook.obs Mine.HH) (Ya := Hook.val Mine.HH) (YP := Hook.says Mine.HH) (N := 4370) Mine.left_ok (Hook.of Mine.HH) (Hook.keeps Mine.HH) (fun s e => xl_of s (Bool.and_eq_true_iff.mp e).1) XL.keeps (by rfl) (by rfl) (by rfl) (fun s e => recFacts_of (Bool.and_eq_true_iff.mp e).2) (by rfl) (by first | assumption | decide +kernel) (by decide +kernel) ⟨rfl, rfl, rfl, rfl, rfl, by decide +kernel⟩ ?hw ?hc
  case hw => w_witness2
  case hc =>
    intro w s₀ s₁ mg mb G Y fa o pm cd doc dV kV ho hd hcd hD hmg hg args vals as hpre hlay hrd hwl hlo
    have KX := kIn_of Y
    refine Ground.open G ?_
    intro T B D TE TW
    clear hmg
    wrow_args hpre hlay hrd hwl hlo
    refine enter_call ?_
    w_top on
    refine codeAny_mono ?_ (fun _ _ g => GoodW.toG g)
    w_call any ho hd hcd hD T F
    clear hd
    rename_i xs hs hlay0 hL1 hr1 hl2 as1 as2 A vs as3 hL ra w1 r0 hI hr hcond1 hcond h₁ N0
    have hlen : xs.length ≤ 1000 := by omega
    obtain ⟨ws, hws⟩ := Mine.well_list w1
    have hob := hws.trans (congrArg some (Mine.list_same hL hws rfl))
    refine Mine.law_walk T.g T.b T.nolimit T.builtins KX hob hI hlen (by rfl) (by rfl) F rfl ?_
    intro h' tk keep
    exact ⟨.inl ⟨_, _, [], rfl, raisesW_false (by wrow_none_raised), ReadsW.bool true, by wrow_post, fun _ => ⟨List.nodup_nil, fun a ha => nomatch ha⟩⟩, keep, rfl, hg⟩
end
