import PyProof.Rows.All
import Wide.All
import OpenK.AllK
import Wide.FinOn
import PySem.Challenge.RW_xm0035_01
open PySem PySem.W PySem.Spec PySem.Calls PyProof.Rows
set_option Elab.async false
set_option maxRecDepth 100000
set_option maxHeartbeats 4000000
namespace Mine
noncomputable abbrev pw := PySem.Challenge.pw_xm0035_01
noncomputable abbrev rw0 := PySem.Challenge.rw_xm0035_01
/-- the text's defs and classes, without the four lines that turn __name__ -/
noncomputable def VW : Program := view pw [1,2,3,4,5,6,7,8,9,10,11,12,13,14,15,17,18,19,20,21,22,23,24,25,26,28,30,31,32,33,34,35,36,37]
noncomputable def hFd (k : Nat) : Stmt := pw.main.body.getD k default
noncomputable def hCd (k j : Nat) : Stmt := (match hFd k with
  | .ClassDef _ _ _ b _ _ _ _ _ _ _ => b
  | _ => []).getD j default
noncomputable def hP : Stmt → Arguments
  | .FunctionDef _ a _ _ _ _ _ _ _ _ => a
  | _ => ⟨[], [], none, [], [], none, []⟩
noncomputable def hB : Stmt → List Stmt
  | .FunctionDef _ _ b _ _ _ _ _ _ _ => b
  | _ => []
noncomputable def hS : Stmt → Scope
  | .FunctionDef _ _ _ _ _ _ sc _ _ _ => sc
  | _ => default
structure Same (a b : Frag) : Prop where
  e : a = b
/-- the objects that the top leaves, as far as the walk reads them; the defs' bodies are taken out of the given program -/
noncomputable def HK : Params → Frag := by
  intro P
  apply (?f : (K : Frag) → Same K [
  (nat_lit 2, ⟨.none,.none,(.dict (List.toArray [⟨(PyData.keyHash P (.ofString "type.__subclasses__.Exception.0")),(.str (.ofString "type.__subclasses__.Exception.0") 223),(.int 34 0)⟩,⟨(PyData.keyHash P (.ofString "type.__subclasses__.Exception.n")),(.str (.ofString "type.__subclasses__.Exception.n") 224),(.int 1 0)⟩]) 2),(List.toArray [])⟩),
  (nat_lit 3, ⟨(.type "dict"),.none,(.dict (List.toArray [⟨(PyData.keyHash P (.ofString "__name__")),(.str (.ofString "__name__") 165),(.str (.ofString "law_xm0035_01") 518)⟩,⟨(PyData.keyHash P (.ofString "__doc__")),(.str (.ofString "__doc__") 166),.none⟩,⟨(PyData.keyHash P (.ofString "__package__")),(.str (.ofString "__package__") 167),.none⟩,⟨(PyData.keyHash P (.ofString "__loader__")),(.str (.ofString "__loader__") 168),(.builtin "__main__.__loader__#opaque")⟩,⟨(PyData.keyHash P (.ofString "__spec__")),(.str (.ofString "__spec__") 169),.none⟩,⟨(PyData.keyHash P (.ofString "__annotations__")),(.str (.ofString "__annotations__") 170),(.ref 6)⟩,⟨(PyData.keyHash P (.ofString "__builtins__")),(.str (.ofString "__builtins__") 171),(.ref 4)⟩,⟨(PyData.keyHash P (.ofString "__file__")),(.str (.ofString "__file__") 173),(.str (.ofString "/claim/cut.py") 172)⟩,⟨(PyData.keyHash P (.ofString "__cached__")),(.str (.ofString "__cached__") 174),.none⟩,⟨(PyData.keyHash P (.ofString "MOST_TEXT")),(.str (.ofString "MOST_TEXT") 190),(.int 255 189)⟩,⟨(PyData.keyHash P (.ofString "MOST_EXPONENT")),(.str (.ofString "MOST_EXPONENT") 192),(.int 99 191)⟩,⟨(PyData.keyHash P (.ofString "BasicError")),(.str (.ofString "BasicError") 226),(.ref 34)⟩,⟨(PyData.keyHash P (.ofString "kind_of_name")),(.str (.ofString "kind_of_name") 235),(.ref 44)⟩,⟨(PyData.keyHash P (.ofString "first_value")),(.str (.ofString "first_value") 242),(.ref 51)⟩,⟨(PyData.keyHash P (.ofString "figures_of")),(.str (.ofString "figures_of") 251),(.ref 58)⟩,⟨(PyData.keyHash P (.ofString "rounded_by")),(.str (.ofString "rounded_by") 262),(.ref 65)⟩,⟨(PyData.keyHash P (.ofString "made")),(.str (.ofString "made") 274),(.ref 72)⟩,⟨(PyData.keyHash P (.ofString "whole_near")),(.str (.ofString "whole_near") 284),(.ref 79)⟩,⟨(PyData.keyHash P (.ofString "fits")),(.str (.ofString "fits") 292),(.ref 86)⟩,⟨(PyData.keyHash P (.ofString "whole_of")),(.str (.ofString "whole_of") 301),(.ref 93)⟩,⟨(PyData.keyHash P (.ofString "decimal_of")),(.str (.ofString "decimal_of") 309),(.ref 100)⟩,⟨(PyData.keyHash P (.ofString "text_of")),(.str (.ofString "text_of") 316),(.ref 107)⟩,⟨(PyData.keyHash P (.ofString "checked_text")),(.str (.ofString "checked_text") 323),(.ref 114)⟩,⟨(PyData.keyHash P (.ofString "suited")),(.str (.ofString "suited") 333),(.ref 121)⟩,⟨(PyData.keyHash P (.ofString "USUAL_HIGH")),(.str (.ofString "USUAL_HIGH") 337),(.int 10 336)⟩,⟨(PyData.keyHash P (.ofString "Grid")),(.str (.ofString "Grid") 372),(.ref 138)⟩,⟨(PyData.keyHash P (.ofString "count_of")),(.str (.ofString "count_of") 382),(.ref 149)⟩,⟨(PyData.keyHash P (.ofString "kind_in")),(.str (.ofString "kind_in") 390),(.ref 156)⟩,⟨(PyData.keyHash P (.ofString "check_highs")),(.str (.ofString "check_highs") 399),(.ref 163)⟩,⟨(PyData.keyHash P (.ofString "dim")),(.str (.ofString "dim") 408),(.ref 170)⟩,⟨(PyData.keyHash P (.ofString "grid_of")),(.str (.ofString "grid_of") 417),(.ref 177)⟩,⟨(PyData.keyHash P (.ofString "place_of")),(.str (.ofString "place_of") 428),(.ref 184)⟩,⟨(PyData.keyHash P (.ofString "get_item")),(.str (.ofString "get_item") 438),(.ref 191)⟩,⟨(PyData.keyHash P (.ofString "set_item")),(.str (.ofString "set_item") 450),(.ref 198)⟩,⟨(PyData.keyHash P (.ofString "World")),(.str (.ofString "World") 517),(.ref 216)⟩,⟨(PyData.keyHash P (.ofString "_law_choice")),(.str (.ofString "_law_choice") 528),(.ref 227)⟩,⟨(PyData.keyHash P (.ofString "_law_orders")),(.str (.ofString "_law_orders") 534),(.ref 234)⟩,⟨(PyData.keyHash P (.ofString "_law_place")),(.str (.ofString "_law_place") 545),(.ref 241)⟩,⟨(PyData.keyHash P (.ofString "_law_paired")),(.str (.ofString "_law_paired") 564),(.ref 248)⟩,⟨(PyData.keyHash P (.ofString "_law_holds")),(.str (.ofString "_law_holds") 576),(.ref 255)⟩,⟨(PyData.keyHash P (.ofString "_law_ends")),(.str (.ofString "_law_ends") 582),(.ref 260)⟩,⟨(PyData.keyHash P (.ofString "_law_turned")),(.str (.ofString "_law_turned") 588),(.ref 265)⟩,⟨(PyData.keyHash P (.ofString "law")),(.str (.ofString "law") 594),(.ref 270)⟩]) 43),(List.toArray [])⟩),
  (nat_lit 15, ⟨(.type "tuple"),.none,(.seq (List.toArray [(.type "Exception")]) 0),(List.toArray [])⟩),
  (nat_lit 18, ⟨(.type "cell"),.none,(.cell (.some (.ref 34))),(List.toArray [])⟩),
  (nat_lit 23, ⟨(.type "tuple"),.none,(.seq (List.toArray [(.str (.ofString "") 205)]) 0),(List.toArray [])⟩),
  (nat_lit 24, ⟨(.type "tuple"),.none,(.seq (List.toArray [(.ref 18)]) 0),(List.toArray [])⟩),
  (nat_lit 25, ⟨(.type "tuple"),.none,(.seq (List.toArray [(.str (.ofString "__class__") 209)]) 0),(List.toArray [])⟩),
  (nat_lit 27, ⟨(.type "tuple"),.none,(.seq (List.toArray [(.str (.ofString "self") 210),(.str (.ofString "code") 211),(.str (.ofString "told") 212)]) 0),(List.toArray [])⟩),
  (nat_lit 28, ⟨(.type "tuple"),.none,(.seq (List.toArray []) 0),(List.toArray [])⟩),
  (nat_lit 30, ⟨(.type "code"),.none,(.fields (List.toArray [(.str (.ofString "__init__") 206),(.str (.ofString "BasicError.__init__") 207),(.str (.ofString "/claim/cut.py") 208),(.int 6 0),(.int 3 0),(.int 0 0),(.int 0 0),(.int 3 0),(.ref 25),(.bool Bool.true),(.int 181 0),(.ref 26),.none,(.ref 27),(.ref 28),(.ref 29),(.int 213 0),(.int 6 0),(.str (.ofString "/claim/cut.py") 214)])),(List.toArray [])⟩),
  (nat_lit 31, ⟨(.type "function"),.none,(.func ⟨(.ofString "__init__"),(.ofString "BasicError.__init__"),(hP (hCd 3 0)),(.stmts (hB (hCd 3 0))),(hS (hCd 3 0)),3,[⟨(.ofString "__class__"),18⟩],(.ref 23),.none,.none,(.str (.ofString "basicplus.values") 187),.none,(.ref 30),(.ref 24),0⟩),(List.toArray [])⟩),
  (nat_lit 32, ⟨(.type "tuple"),.none,(.seq (List.toArray [(.str (.ofString "code") 216),(.str (.ofString "told") 217)]) 0),(List.toArray [])⟩),
  (nat_lit 33, ⟨(.type "dict"),.none,(.dict (List.toArray [⟨(PyData.keyHash P (.ofString "__module__")),(.str (.ofString "__module__") 200),(.str (.ofString "basicplus.values") 187)⟩,⟨(PyData.keyHash P (.ofString "__firstlineno__")),(.str (.ofString "__firstlineno__") 204),(.int 4 203)⟩,⟨(PyData.keyHash P (.ofString "__init__")),(.str (.ofString "__init__") 215),(.ref 31)⟩,⟨(PyData.keyHash P (.ofString "__static_attributes__")),(.str (.ofString "__static_attributes__") 218),(.ref 32)⟩,⟨(PyData.keyHash P (.ofString "__weakref__")),(.str (.ofString "__weakref__") 221),(.ref 35)⟩,⟨(PyData.keyHash P (.ofString "__doc__")),(.str (.ofString "__doc__") 222),.none⟩]) 4),(List.toArray [])⟩),
  (nat_lit 34, ⟨(.type "type"),.none,(.cls ⟨(.ofString "BasicError"),[(.type "Exception")],[(.ref 34),(.type "Exception"),(.type "BaseException"),(.type "object")],33,(.ofString "BasicError"),Bool.true,[],[],Bool.false,.none,Bool.false⟩),(List.toArray [(.some (.ref 15)),.none,(.some (.str (.ofString "BasicError") 193)),(.some (.str (.ofString "BasicError") 201)),(.some (.builtin "Exception.__new__")),(.some (.bool Bool.true))])⟩),
  (nat_lit 35, ⟨(.type "getset_descriptor"),.none,(.fields (List.toArray [(.str (.ofString "__weakref__") 220),(.ref 34),(.builtin "ExceptionGroup.__weakref__"),.none])),(List.toArray [])⟩),
  (nat_lit 38, ⟨(.type "tuple"),.none,(.seq (List.toArray []) 0),(List.toArray [])⟩),
  (nat_lit 40, ⟨(.type "tuple"),.none,(.seq (List.toArray [(.str (.ofString "name") 230),(.str (.ofString "kinds") 231),(.str (.ofString "last") 232)]) 0),(List.toArray [])⟩),
  (nat_lit 41, ⟨(.type "tuple"),.none,(.seq (List.toArray []) 0),(List.toArray [])⟩),
  (nat_lit 43, ⟨(.type "code"),.none,(.fields (List.toArray [(.str (.ofString "kind_of_name") 227),(.str (.ofString "kind_of_name") 228),(.str (.ofString "/claim/cut.py") 229),(.int 10 0),(.int 2 0),(.int 0 0),(.int 0 0),(.int 3 0),(.ref 38),(.bool Bool.true),(.int 181 0),(.ref 39),.none,(.ref 40),(.ref 41),(.ref 42),(.int 233 0),(.int 10 0),(.str (.ofString "/claim/cut.py") 234)])),(List.toArray [])⟩),
  (nat_lit 44, ⟨(.type "function"),.none,(.func ⟨(.ofString "kind_of_name"),(.ofString "kind_of_name"),(hP (hFd 4)),(.stmts (hB (hFd 4))),(hS (hFd 4)),3,[],.none,.none,.none,(.str (.ofString "basicplus.values") 187),.none,(.ref 43),.none,0⟩),(List.toArray [])⟩),
  (nat_lit 45, ⟨(.type "tuple"),.none,(.seq (List.toArray []) 0),(List.toArray [])⟩),
  (nat_lit 47, ⟨(.type "tuple"),.none,(.seq (List.toArray [(.str (.ofString "kind") 239)]) 0),(List.toArray [])⟩),
  (nat_lit 48, ⟨(.type "tuple"),.none,(.seq (List.toArray []) 0),(List.toArray [])⟩),
  (nat_lit 50, ⟨(.type "code"),.none,(.fields (List.toArray [(.str (.ofString "first_value") 236),(.str (.ofString "first_value") 237),(.str (.ofString "/claim/cut.py") 238),(.int 17 0),(.int 1 0),(.int 0 0),(.int 0 0),(.int 3 0),(.ref 45),(.bool Bool.true),(.int 181 0),(.ref 46),.none,(.ref 47),(.ref 48),(.ref 49),(.int 240 0),(.int 17 0),(.str (.ofString "/claim/cut.py") 241)])),(List.toArray [])⟩),
  (nat_lit 51, ⟨(.type "function"),.none,(.func ⟨(.ofString "first_value"),(.ofString "first_value"),(hP (hFd 5)),(.stmts (hB (hFd 5))),(hS (hFd 5)),3,[],.none,.none,.none,(.str (.ofString "basicplus.values") 187),.none,(.ref 50),.none,0⟩),(List.toArray [])⟩),
  (nat_lit 52, ⟨(.type "tuple"),.none,(.seq (List.toArray []) 0),(List.toArray [])⟩),
  (nat_lit 54, ⟨(.type "tuple"),.none,(.seq (List.toArray [(.str (.ofString "number") 246),(.str (.ofString "many") 247),(.str (.ofString "bound") 248)]) 0),(List.toArray [])⟩),
  (nat_lit 55, ⟨(.type "tuple"),.none,(.seq (List.toArray []) 0),(List.toArray [])⟩),
  (nat_lit 57, ⟨(.type "code"),.none,(.fields (List.toArray [(.str (.ofString "figures_of") 243),(.str (.ofString "figures_of") 244),(.str (.ofString "/claim/cut.py") 245),(.int 21 0),(.int 1 0),(.int 0 0),(.int 0 0),(.int 3 0),(.ref 52),(.bool Bool.true),(.int 181 0),(.ref 53),.none,(.ref 54),(.ref 55),(.ref 56),(.int 249 0),(.int 21 0),(.str (.ofString "/claim/cut.py") 250)])),(List.toArray [])⟩),
  (nat_lit 58, ⟨(.type "function"),.none,(.func ⟨(.ofString "figures_of"),(.ofString "figures_of"),(hP (hFd 6)),(.stmts (hB (hFd 6))),(hS (hFd 6)),3,[],.none,.none,.none,(.str (.ofString "basicplus.values") 187),.none,(.ref 57),.none,0⟩),(List.toArray [])⟩),
  (nat_lit 59, ⟨(.type "tuple"),.none,(.seq (List.toArray []) 0),(List.toArray [])⟩),
  (nat_lit 61, ⟨(.type "tuple"),.none,(.seq (List.toArray [(.str (.ofString "number") 255),(.str (.ofString "places") 256),(.str (.ofString "unit") 257),(.str (.ofString "found") 258),(.str (.ofString "rest") 259)]) 0),(List.toArray [])⟩),
  (nat_lit 62, ⟨(.type "tuple"),.none,(.seq (List.toArray []) 0),(List.toArray [])⟩),
  (nat_lit 64, ⟨(.type "code"),.none,(.fields (List.toArray [(.str (.ofString "rounded_by") 252),(.str (.ofString "rounded_by") 253),(.str (.ofString "/claim/cut.py") 254),(.int 27 0),(.int 2 0),(.int 0 0),(.int 0 0),(.int 3 0),(.ref 59),(.bool Bool.true),(.int 181 0),(.ref 60),.none,(.ref 61),(.ref 62),(.ref 63),(.int 260 0),(.int 27 0),(.str (.ofString "/claim/cut.py") 261)])),(List.toArray [])⟩),
  (nat_lit 65, ⟨(.type "function"),.none,(.func ⟨(.ofString "rounded_by"),(.ofString "rounded_by"),(hP (hFd 7)),(.stmts (hB (hFd 7))),(hS (hFd 7)),3,[],.none,.none,.none,(.str (.ofString "basicplus.values") 187),.none,(.ref 64),.none,0⟩),(List.toArray [])⟩),
  (nat_lit 66, ⟨(.type "tuple"),.none,(.seq (List.toArray []) 0),(List.toArray [])⟩),
  (nat_lit 68, ⟨(.type "tuple"),.none,(.seq (List.toArray [(.str (.ofString "coefficient") 266),(.str (.ofString "exponent") 267),(.str (.ofString "digits") 268),(.str (.ofString "size") 269),(.str (.ofString "more") 270),(.str (.ofString "first") 271)]) 0),(List.toArray [])⟩),
  (nat_lit 69, ⟨(.type "tuple"),.none,(.seq (List.toArray []) 0),(List.toArray [])⟩),
  (nat_lit 71, ⟨(.type "code"),.none,(.fields (List.toArray [(.str (.ofString "made") 263),(.str (.ofString "made") 264),(.str (.ofString "/claim/cut.py") 265),(.int 37 0),(.int 3 0),(.int 0 0),(.int 0 0),(.int 3 0),(.ref 66),(.bool Bool.true),(.int 181 0),(.ref 67),.none,(.ref 68),(.ref 69),(.ref 70),(.int 272 0),(.int 37 0),(.str (.ofString "/claim/cut.py") 273)])),(List.toArray [])⟩),
  (nat_lit 72, ⟨(.type "function"),.none,(.func ⟨(.ofString "made"),(.ofString "made"),(hP (hFd 8)),(.stmts (hB (hFd 8))),(hS (hFd 8)),3,[],.none,.none,.none,(.str (.ofString "basicplus.values") 187),.none,(.ref 71),.none,0⟩),(List.toArray [])⟩),
  (nat_lit 73, ⟨(.type "tuple"),.none,(.seq (List.toArray []) 0),(List.toArray [])⟩),
  (nat_lit 75, ⟨(.type "tuple"),.none,(.seq (List.toArray [(.str (.ofString "value") 278),(.str (.ofString "coefficient") 279),(.str (.ofString "exponent") 280),(.str (.ofString "size") 281)]) 0),(List.toArray [])⟩),
  (nat_lit 76, ⟨(.type "tuple"),.none,(.seq (List.toArray []) 0),(List.toArray [])⟩),
  (nat_lit 78, ⟨(.type "code"),.none,(.fields (List.toArray [(.str (.ofString "whole_near") 275),(.str (.ofString "whole_near") 276),(.str (.ofString "/claim/cut.py") 277),(.int 52 0),(.int 1 0),(.int 0 0),(.int 0 0),(.int 3 0),(.ref 73),(.bool Bool.true),(.int 181 0),(.ref 74),.none,(.ref 75),(.ref 76),(.ref 77),(.int 282 0),(.int 52 0),(.str (.ofString "/claim/cut.py") 283)])),(List.toArray [])⟩),
  (nat_lit 79, ⟨(.type "function"),.none,(.func ⟨(.ofString "whole_near"),(.ofString "whole_near"),(hP (hFd 9)),(.stmts (hB (hFd 9))),(hS (hFd 9)),3,[],.none,.none,.none,(.str (.ofString "basicplus.values") 187),.none,(.ref 78),.none,0⟩),(List.toArray [])⟩),
  (nat_lit 80, ⟨(.type "tuple"),.none,(.seq (List.toArray []) 0),(List.toArray [])⟩),
  (nat_lit 82, ⟨(.type "tuple"),.none,(.seq (List.toArray [(.str (.ofString "number") 288),(.str (.ofString "bits") 289)]) 0),(List.toArray [])⟩),
  (nat_lit 83, ⟨(.type "tuple"),.none,(.seq (List.toArray []) 0),(List.toArray [])⟩),
  (nat_lit 85, ⟨(.type "code"),.none,(.fields (List.toArray [(.str (.ofString "fits") 285),(.str (.ofString "fits") 286),(.str (.ofString "/claim/cut.py") 287),(.int 58 0),(.int 2 0),(.int 0 0),(.int 0 0),(.int 3 0),(.ref 80),(.bool Bool.true),(.int 181 0),(.ref 81),.none,(.ref 82),(.ref 83),(.ref 84),(.int 290 0),(.int 58 0),(.str (.ofString "/claim/cut.py") 291)])),(List.toArray [])⟩),
  (nat_lit 86, ⟨(.type "function"),.none,(.func ⟨(.ofString "fits"),(.ofString "fits"),(hP (hFd 10)),(.stmts (hB (hFd 10))),(hS (hFd 10)),3,[],.none,.none,.none,(.str (.ofString "basicplus.values") 187),.none,(.ref 85),.none,0⟩),(List.toArray [])⟩),
  (nat_lit 87, ⟨(.type "tuple"),.none,(.seq (List.toArray []) 0),(List.toArray [])⟩),
  (nat_lit 89, ⟨(.type "tuple"),.none,(.seq (List.toArray [(.str (.ofString "value") 296),(.str (.ofString "bits") 297),(.str (.ofString "number") 298)]) 0),(List.toArray [])⟩),
  (nat_lit 90, ⟨(.type "tuple"),.none,(.seq (List.toArray []) 0),(List.toArray [])⟩),
  (nat_lit 92, ⟨(.type "code"),.none,(.fields (List.toArray [(.str (.ofString "whole_of") 293),(.str (.ofString "whole_of") 294),(.str (.ofString "/claim/cut.py") 295),(.int 60 0),(.int 2 0),(.int 0 0),(.int 0 0),(.int 3 0),(.ref 87),(.bool Bool.true),(.int 181 0),(.ref 88),.none,(.ref 89),(.ref 90),(.ref 91),(.int 299 0),(.int 60 0),(.str (.ofString "/claim/cut.py") 300)])),(List.toArray [])⟩),
  (nat_lit 93, ⟨(.type "function"),.none,(.func ⟨(.ofString "whole_of"),(.ofString "whole_of"),(hP (hFd 11)),(.stmts (hB (hFd 11))),(hS (hFd 11)),3,[],.none,.none,.none,(.str (.ofString "basicplus.values") 187),.none,(.ref 92),.none,0⟩),(List.toArray [])⟩),
  (nat_lit 94, ⟨(.type "tuple"),.none,(.seq (List.toArray []) 0),(List.toArray [])⟩),
  (nat_lit 96, ⟨(.type "tuple"),.none,(.seq (List.toArray [(.str (.ofString "value") 305),(.str (.ofString "digits") 306)]) 0),(List.toArray [])⟩),
  (nat_lit 97, ⟨(.type "tuple"),.none,(.seq (List.toArray []) 0),(List.toArray [])⟩),
  (nat_lit 99, ⟨(.type "code"),.none,(.fields (List.toArray [(.str (.ofString "decimal_of") 302),(.str (.ofString "decimal_of") 303),(.str (.ofString "/claim/cut.py") 304),(.int 67 0),(.int 2 0),(.int 0 0),(.int 0 0),(.int 3 0),(.ref 94),(.bool Bool.true),(.int 181 0),(.ref 95),.none,(.ref 96),(.ref 97),(.ref 98),(.int 307 0),(.int 67 0),(.str (.ofString "/claim/cut.py") 308)])),(List.toArray [])⟩),
  (nat_lit 100, ⟨(.type "function"),.none,(.func ⟨(.ofString "decimal_of"),(.ofString "decimal_of"),(hP (hFd 12)),(.stmts (hB (hFd 12))),(hS (hFd 12)),3,[],.none,.none,.none,(.str (.ofString "basicplus.values") 187),.none,(.ref 99),.none,0⟩),(List.toArray [])⟩),
  (nat_lit 101, ⟨(.type "tuple"),.none,(.seq (List.toArray []) 0),(List.toArray [])⟩),
  (nat_lit 103, ⟨(.type "tuple"),.none,(.seq (List.toArray [(.str (.ofString "value") 313)]) 0),(List.toArray [])⟩),
  (nat_lit 104, ⟨(.type "tuple"),.none,(.seq (List.toArray []) 0),(List.toArray [])⟩),
  (nat_lit 106, ⟨(.type "code"),.none,(.fields (List.toArray [(.str (.ofString "text_of") 310),(.str (.ofString "text_of") 311),(.str (.ofString "/claim/cut.py") 312),(.int 71 0),(.int 1 0),(.int 0 0),(.int 0 0),(.int 3 0),(.ref 101),(.bool Bool.true),(.int 181 0),(.ref 102),.none,(.ref 103),(.ref 104),(.ref 105),(.int 314 0),(.int 71 0),(.str (.ofString "/claim/cut.py") 315)])),(List.toArray [])⟩),
  (nat_lit 107, ⟨(.type "function"),.none,(.func ⟨(.ofString "text_of"),(.ofString "text_of"),(hP (hFd 13)),(.stmts (hB (hFd 13))),(hS (hFd 13)),3,[],.none,.none,.none,(.str (.ofString "basicplus.values") 187),.none,(.ref 106),.none,0⟩),(List.toArray [])⟩),
  (nat_lit 108, ⟨(.type "tuple"),.none,(.seq (List.toArray []) 0),(List.toArray [])⟩),
  (nat_lit 110, ⟨(.type "tuple"),.none,(.seq (List.toArray [(.str (.ofString "text") 320)]) 0),(List.toArray [])⟩),
  (nat_lit 111, ⟨(.type "tuple"),.none,(.seq (List.toArray []) 0),(List.toArray [])⟩),
  (nat_lit 113, ⟨(.type "code"),.none,(.fields (List.toArray [(.str (.ofString "checked_text") 317),(.str (.ofString "checked_text") 318),(.str (.ofString "/claim/cut.py") 319),(.int 75 0),(.int 1 0),(.int 0 0),(.int 0 0),(.int 3 0),(.ref 108),(.bool Bool.true),(.int 181 0),(.ref 109),.none,(.ref 110),(.ref 111),(.ref 112),(.int 321 0),(.int 75 0),(.str (.ofString "/claim/cut.py") 322)])),(List.toArray [])⟩),
  (nat_lit 114, ⟨(.type "function"),.none,(.func ⟨(.ofString "checked_text"),(.ofString "checked_text"),(hP (hFd 14)),(.stmts (hB (hFd 14))),(hS (hFd 14)),3,[],.none,.none,.none,(.str (.ofString "basicplus.values") 187),.none,(.ref 113),.none,0⟩),(List.toArray [])⟩),
  (nat_lit 115, ⟨(.type "tuple"),.none,(.seq (List.toArray []) 0),(List.toArray [])⟩),
  (nat_lit 117, ⟨(.type "tuple"),.none,(.seq (List.toArray [(.str (.ofString "value") 327),(.str (.ofString "kind") 328),(.str (.ofString "bits") 329),(.str (.ofString "digits") 330)]) 0),(List.toArray [])⟩),
  (nat_lit 118, ⟨(.type "tuple"),.none,(.seq (List.toArray []) 0),(List.toArray [])⟩),
  (nat_lit 120, ⟨(.type "code"),.none,(.fields (List.toArray [(.str (.ofString "suited") 324),(.str (.ofString "suited") 325),(.str (.ofString "/claim/cut.py") 326),(.int 79 0),(.int 4 0),(.int 0 0),(.int 0 0),(.int 3 0),(.ref 115),(.bool Bool.true),(.int 181 0),(.ref 116),.none,(.ref 117),(.ref 118),(.ref 119),(.int 331 0),(.int 79 0),(.str (.ofString "/claim/cut.py") 332)])),(List.toArray [])⟩),
  (nat_lit 121, ⟨(.type "function"),.none,(.func ⟨(.ofString "suited"),(.ofString "suited"),(hP (hFd 15)),(.stmts (hB (hFd 15))),(hS (hFd 15)),3,[],.none,.none,.none,(.str (.ofString "basicplus.values") 187),.none,(.ref 120),.none,0⟩),(List.toArray [])⟩),
  (nat_lit 129, ⟨(.type "tuple"),.none,(.seq (List.toArray []) 0),(List.toArray [])⟩),
  (nat_lit 131, ⟨(.type "tuple"),.none,(.seq (List.toArray [(.str (.ofString "self") 353),(.str (.ofString "kind") 354),(.str (.ofString "highs") 355),(.str (.ofString "base") 356)]) 0),(List.toArray [])⟩),
  (nat_lit 132, ⟨(.type "tuple"),.none,(.seq (List.toArray []) 0),(List.toArray [])⟩),
  (nat_lit 134, ⟨(.type "code"),.none,(.fields (List.toArray [(.str (.ofString "__init__") 350),(.str (.ofString "Grid.__init__") 351),(.str (.ofString "/claim/cut.py") 352),(.int 87 0),(.int 4 0),(.int 0 0),(.int 0 0),(.int 3 0),(.ref 129),(.bool Bool.true),(.int 181 0),(.ref 130),.none,(.ref 131),(.ref 132),(.ref 133),(.int 357 0),(.int 87 0),(.str (.ofString "/claim/cut.py") 358)])),(List.toArray [])⟩),
  (nat_lit 135, ⟨(.type "function"),.none,(.func ⟨(.ofString "__init__"),(.ofString "Grid.__init__"),(hP (hCd 18 0)),(.stmts (hB (hCd 18 0))),(hS (hCd 18 0)),3,[],.none,.none,.none,(.str (.ofString "basicplus.arrays") 334),.none,(.ref 134),.none,0⟩),(List.toArray [])⟩),
  (nat_lit 136, ⟨(.type "tuple"),.none,(.seq (List.toArray [(.str (.ofString "base") 360),(.str (.ofString "highs") 361),(.str (.ofString "items") 362),(.str (.ofString "kind") 363),(.str (.ofString "room") 364)]) 0),(List.toArray [])⟩),
  (nat_lit 137, ⟨(.type "dict"),.none,(.dict (List.toArray [⟨(PyData.keyHash P (.ofString "__module__")),(.str (.ofString "__module__") 345),(.str (.ofString "basicplus.arrays") 334)⟩,⟨(PyData.keyHash P (.ofString "__firstlineno__")),(.str (.ofString "__firstlineno__") 349),(.int 85 348)⟩,⟨(PyData.keyHash P (.ofString "__init__")),(.str (.ofString "__init__") 359),(.ref 135)⟩,⟨(PyData.keyHash P (.ofString "__static_attributes__")),(.str (.ofString "__static_attributes__") 365),(.ref 136)⟩,⟨(PyData.keyHash P (.ofString "__dict__")),(.str (.ofString "__dict__") 367),(.ref 139)⟩,⟨(PyData.keyHash P (.ofString "__weakref__")),(.str (.ofString "__weakref__") 369),(.ref 140)⟩,⟨(PyData.keyHash P (.ofString "__doc__")),(.str (.ofString "__doc__") 370),.none⟩]) 4),(List.toArray [])⟩),
  (nat_lit 138, ⟨(.type "type"),.none,(.cls ⟨(.ofString "Grid"),[(.type "object")],[(.ref 138),(.type "object")],137,(.ofString "Grid"),Bool.true,[],[],Bool.false,.none,Bool.false⟩),(List.toArray [.none,.none,(.some (.str (.ofString "Grid") 338)),(.some (.str (.ofString "Grid") 346)),(.some (.builtin "object.__new__")),(.some (.bool Bool.true))])⟩),
  (nat_lit 139, ⟨(.type "getset_descriptor"),.none,(.fields (List.toArray [(.str (.ofString "__dict__") 366),(.ref 138),(.builtin "function.__dict__"),(.builtin "function.__dict__#set")])),(List.toArray [])⟩),
  (nat_lit 140, ⟨(.type "getset_descriptor"),.none,(.fields (List.toArray [(.str (.ofString "__weakref__") 368),(.ref 138),(.builtin "ExceptionGroup.__weakref__"),.none])),(List.toArray [])⟩),
  (nat_lit 143, ⟨(.type "tuple"),.none,(.seq (List.toArray []) 0),(List.toArray [])⟩),
  (nat_lit 145, ⟨(.type "tuple"),.none,(.seq (List.toArray [(.str (.ofString "highs") 376),(.str (.ofString "base") 377),(.str (.ofString "found") 378),(.str (.ofString "high") 379)]) 0),(List.toArray [])⟩),
  (nat_lit 146, ⟨(.type "tuple"),.none,(.seq (List.toArray []) 0),(List.toArray [])⟩),
  (nat_lit 148, ⟨(.type "code"),.none,(.fields (List.toArray [(.str (.ofString "count_of") 373),(.str (.ofString "count_of") 374),(.str (.ofString "/claim/cut.py") 375),(.int 93 0),(.int 2 0),(.int 0 0),(.int 0 0),(.int 3 0),(.ref 143),(.bool Bool.true),(.int 181 0),(.ref 144),.none,(.ref 145),(.ref 146),(.ref 147),(.int 380 0),(.int 93 0),(.str (.ofString "/claim/cut.py") 381)])),(List.toArray [])⟩),
  (nat_lit 149, ⟨(.type "function"),.none,(.func ⟨(.ofString "count_of"),(.ofString "count_of"),(hP (hFd 19)),(.stmts (hB (hFd 19))),(hS (hFd 19)),3,[],.none,.none,.none,(.str (.ofString "basicplus.arrays") 334),.none,(.ref 148),.none,0⟩),(List.toArray [])⟩),
  (nat_lit 150, ⟨(.type "tuple"),.none,(.seq (List.toArray []) 0),(List.toArray [])⟩),
  (nat_lit 152, ⟨(.type "tuple"),.none,(.seq (List.toArray [(.str (.ofString "world") 386),(.str (.ofString "word") 387)]) 0),(List.toArray [])⟩),
  (nat_lit 153, ⟨(.type "tuple"),.none,(.seq (List.toArray []) 0),(List.toArray [])⟩),
  (nat_lit 155, ⟨(.type "code"),.none,(.fields (List.toArray [(.str (.ofString "kind_in") 383),(.str (.ofString "kind_in") 384),(.str (.ofString "/claim/cut.py") 385),(.int 98 0),(.int 2 0),(.int 0 0),(.int 0 0),(.int 3 0),(.ref 150),(.bool Bool.true),(.int 181 0),(.ref 151),.none,(.ref 152),(.ref 153),(.ref 154),(.int 388 0),(.int 98 0),(.str (.ofString "/claim/cut.py") 389)])),(List.toArray [])⟩),
  (nat_lit 156, ⟨(.type "function"),.none,(.func ⟨(.ofString "kind_in"),(.ofString "kind_in"),(hP (hFd 20)),(.stmts (hB (hFd 20))),(hS (hFd 20)),3,[],.none,.none,.none,(.str (.ofString "basicplus.arrays") 334),.none,(.ref 155),.none,0⟩),(List.toArray [])⟩),
  (nat_lit 157, ⟨(.type "tuple"),.none,(.seq (List.toArray []) 0),(List.toArray [])⟩),
  (nat_lit 159, ⟨(.type "tuple"),.none,(.seq (List.toArray [(.str (.ofString "world") 394),(.str (.ofString "highs") 395),(.str (.ofString "high") 396)]) 0),(List.toArray [])⟩),
  (nat_lit 160, ⟨(.type "tuple"),.none,(.seq (List.toArray []) 0),(List.toArray [])⟩),
  (nat_lit 162, ⟨(.type "code"),.none,(.fields (List.toArray [(.str (.ofString "check_highs") 391),(.str (.ofString "check_highs") 392),(.str (.ofString "/claim/cut.py") 393),(.int 100 0),(.int 2 0),(.int 0 0),(.int 0 0),(.int 3 0),(.ref 157),(.bool Bool.true),(.int 181 0),(.ref 158),.none,(.ref 159),(.ref 160),(.ref 161),(.int 397 0),(.int 100 0),(.str (.ofString "/claim/cut.py") 398)])),(List.toArray [])⟩),
  (nat_lit 163, ⟨(.type "function"),.none,(.func ⟨(.ofString "check_highs"),(.ofString "check_highs"),(hP (hFd 21)),(.stmts (hB (hFd 21))),(hS (hFd 21)),3,[],.none,.none,.none,(.str (.ofString "basicplus.arrays") 334),.none,(.ref 162),.none,0⟩),(List.toArray [])⟩),
  (nat_lit 164, ⟨(.type "tuple"),.none,(.seq (List.toArray []) 0),(List.toArray [])⟩),
  (nat_lit 166, ⟨(.type "tuple"),.none,(.seq (List.toArray [(.str (.ofString "world") 403),(.str (.ofString "word") 404),(.str (.ofString "highs") 405)]) 0),(List.toArray [])⟩),
  (nat_lit 167, ⟨(.type "tuple"),.none,(.seq (List.toArray []) 0),(List.toArray [])⟩),
  (nat_lit 169, ⟨(.type "code"),.none,(.fields (List.toArray [(.str (.ofString "dim") 400),(.str (.ofString "dim") 401),(.str (.ofString "/claim/cut.py") 402),(.int 108 0),(.int 3 0),(.int 0 0),(.int 0 0),(.int 3 0),(.ref 164),(.bool Bool.true),(.int 181 0),(.ref 165),.none,(.ref 166),(.ref 167),(.ref 168),(.int 406 0),(.int 108 0),(.str (.ofString "/claim/cut.py") 407)])),(List.toArray [])⟩),
  (nat_lit 170, ⟨(.type "function"),.none,(.func ⟨(.ofString "dim"),(.ofString "dim"),(hP (hFd 22)),(.stmts (hB (hFd 22))),(hS (hFd 22)),3,[],.none,.none,.none,(.str (.ofString "basicplus.arrays") 334),.none,(.ref 169),.none,0⟩),(List.toArray [])⟩),
  (nat_lit 171, ⟨(.type "tuple"),.none,(.seq (List.toArray []) 0),(List.toArray [])⟩),
  (nat_lit 173, ⟨(.type "tuple"),.none,(.seq (List.toArray [(.str (.ofString "world") 412),(.str (.ofString "word") 413),(.str (.ofString "many") 414)]) 0),(List.toArray [])⟩),
  (nat_lit 174, ⟨(.type "tuple"),.none,(.seq (List.toArray []) 0),(List.toArray [])⟩),
  (nat_lit 176, ⟨(.type "code"),.none,(.fields (List.toArray [(.str (.ofString "grid_of") 409),(.str (.ofString "grid_of") 410),(.str (.ofString "/claim/cut.py") 411),(.int 113 0),(.int 3 0),(.int 0 0),(.int 0 0),(.int 3 0),(.ref 171),(.bool Bool.true),(.int 181 0),(.ref 172),.none,(.ref 173),(.ref 174),(.ref 175),(.int 415 0),(.int 113 0),(.str (.ofString "/claim/cut.py") 416)])),(List.toArray [])⟩),
  (nat_lit 177, ⟨(.type "function"),.none,(.func ⟨(.ofString "grid_of"),(.ofString "grid_of"),(hP (hFd 23)),(.stmts (hB (hFd 23))),(hS (hFd 23)),3,[],.none,.none,.none,(.str (.ofString "basicplus.arrays") 334),.none,(.ref 176),.none,0⟩),(List.toArray [])⟩),
  (nat_lit 178, ⟨(.type "tuple"),.none,(.seq (List.toArray []) 0),(List.toArray [])⟩),
  (nat_lit 180, ⟨(.type "tuple"),.none,(.seq (List.toArray [(.str (.ofString "grid") 421),(.str (.ofString "subs") 422),(.str (.ofString "found") 423),(.str (.ofString "sub") 424),(.str (.ofString "high") 425)]) 0),(List.toArray [])⟩),
  (nat_lit 181, ⟨(.type "tuple"),.none,(.seq (List.toArray []) 0),(List.toArray [])⟩),
  (nat_lit 183, ⟨(.type "code"),.none,(.fields (List.toArray [(.str (.ofString "place_of") 418),(.str (.ofString "place_of") 419),(.str (.ofString "/claim/cut.py") 420),(.int 117 0),(.int 2 0),(.int 0 0),(.int 0 0),(.int 3 0),(.ref 178),(.bool Bool.true),(.int 181 0),(.ref 179),.none,(.ref 180),(.ref 181),(.ref 182),(.int 426 0),(.int 117 0),(.str (.ofString "/claim/cut.py") 427)])),(List.toArray [])⟩),
  (nat_lit 184, ⟨(.type "function"),.none,(.func ⟨(.ofString "place_of"),(.ofString "place_of"),(hP (hFd 24)),(.stmts (hB (hFd 24))),(hS (hFd 24)),3,[],.none,.none,.none,(.str (.ofString "basicplus.arrays") 334),.none,(.ref 183),.none,0⟩),(List.toArray [])⟩),
  (nat_lit 185, ⟨(.type "tuple"),.none,(.seq (List.toArray []) 0),(List.toArray [])⟩),
  (nat_lit 187, ⟨(.type "tuple"),.none,(.seq (List.toArray [(.str (.ofString "world") 432),(.str (.ofString "word") 433),(.str (.ofString "subs") 434),(.str (.ofString "grid") 435)]) 0),(List.toArray [])⟩),
  (nat_lit 188, ⟨(.type "tuple"),.none,(.seq (List.toArray []) 0),(List.toArray [])⟩),
  (nat_lit 190, ⟨(.type "code"),.none,(.fields (List.toArray [(.str (.ofString "get_item") 429),(.str (.ofString "get_item") 430),(.str (.ofString "/claim/cut.py") 431),(.int 126 0),(.int 3 0),(.int 0 0),(.int 0 0),(.int 3 0),(.ref 185),(.bool Bool.true),(.int 181 0),(.ref 186),.none,(.ref 187),(.ref 188),(.ref 189),(.int 436 0),(.int 126 0),(.str (.ofString "/claim/cut.py") 437)])),(List.toArray [])⟩),
  (nat_lit 191, ⟨(.type "function"),.none,(.func ⟨(.ofString "get_item"),(.ofString "get_item"),(hP (hFd 25)),(.stmts (hB (hFd 25))),(hS (hFd 25)),3,[],.none,.none,.none,(.str (.ofString "basicplus.arrays") 334),.none,(.ref 190),.none,0⟩),(List.toArray [])⟩),
  (nat_lit 192, ⟨(.type "tuple"),.none,(.seq (List.toArray []) 0),(List.toArray [])⟩),
  (nat_lit 194, ⟨(.type "tuple"),.none,(.seq (List.toArray [(.str (.ofString "world") 442),(.str (.ofString "word") 443),(.str (.ofString "subs") 444),(.str (.ofString "value") 445),(.str (.ofString "grid") 446),(.str (.ofString "place") 447)]) 0),(List.toArray [])⟩),
  (nat_lit 195, ⟨(.type "tuple"),.none,(.seq (List.toArray []) 0),(List.toArray [])⟩),
  (nat_lit 197, ⟨(.type "code"),.none,(.fields (List.toArray [(.str (.ofString "set_item") 439),(.str (.ofString "set_item") 440),(.str (.ofString "/claim/cut.py") 441),(.int 129 0),(.int 4 0),(.int 0 0),(.int 0 0),(.int 3 0),(.ref 192),(.bool Bool.true),(.int 181 0),(.ref 193),.none,(.ref 194),(.ref 195),(.ref 196),(.int 448 0),(.int 129 0),(.str (.ofString "/claim/cut.py") 449)])),(List.toArray [])⟩),
  (nat_lit 198, ⟨(.type "function"),.none,(.func ⟨(.ofString "set_item"),(.ofString "set_item"),(hP (hFd 26)),(.stmts (hB (hFd 26))),(hS (hFd 26)),3,[],.none,.none,.none,(.str (.ofString "basicplus.arrays") 334),.none,(.ref 197),.none,0⟩),(List.toArray [])⟩),
  (nat_lit 206, ⟨(.type "tuple"),.none,(.seq (List.toArray [(.int 16 465),(.int 9 466),(.int 2000 467),(.int 20 468),(.int 2000 469)]) 0),(List.toArray [])⟩),
  (nat_lit 207, ⟨(.type "tuple"),.none,(.seq (List.toArray []) 0),(List.toArray [])⟩),
  (nat_lit 209, ⟨(.type "tuple"),.none,(.seq (List.toArray [(.str (.ofString "self") 473),(.str (.ofString "bits") 474),(.str (.ofString "digits") 475),(.str (.ofString "most_steps") 476),(.str (.ofString "most_depth") 477),(.str (.ofString "room") 478)]) 0),(List.toArray [])⟩),
  (nat_lit 210, ⟨(.type "tuple"),.none,(.seq (List.toArray []) 0),(List.toArray [])⟩),
  (nat_lit 212, ⟨(.type "code"),.none,(.fields (List.toArray [(.str (.ofString "__init__") 470),(.str (.ofString "World.__init__") 471),(.str (.ofString "/claim/cut.py") 472),(.int 136 0),(.int 6 0),(.int 0 0),(.int 0 0),(.int 3 0),(.ref 207),(.bool Bool.true),(.int 181 0),(.ref 208),.none,(.ref 209),(.ref 210),(.ref 211),(.int 479 0),(.int 136 0),(.str (.ofString "/claim/cut.py") 480)])),(List.toArray [])⟩),
  (nat_lit 213, ⟨(.type "function"),.none,(.func ⟨(.ofString "__init__"),(.ofString "World.__init__"),(hP (hCd 28 0)),(.stmts (hB (hCd 28 0))),(hS (hCd 28 0)),3,[],(.ref 206),.none,.none,(.str (.ofString "basicplus.world") 451),.none,(.ref 212),.none,0⟩),(List.toArray [])⟩),
  (nat_lit 214, ⟨(.type "tuple"),.none,(.seq (List.toArray [(.str (.ofString "arrays") 482),(.str (.ofString "base") 483),(.str (.ofString "bits") 484),(.str (.ofString "common") 485),(.str (.ofString "data") 486),(.str (.ofString "depth") 487),(.str (.ofString "digits") 488),(.str (.ofString "error_code") 489),(.str (.ofString "error_line") 490),(.str (.ofString "fields") 491),(.str (.ofString "files") 492),(.str (.ofString "fns") 493),(.str (.ofString "handler") 494),(.str (.ofString "inputs") 495),(.str (.ofString "is_handling") 496),(.str (.ofString "is_traced") 497),(.str (.ofString "kinds") 498),(.str (.ofString "most_depth") 499),(.str (.ofString "most_steps") 500),(.str (.ofString "names") 501),(.str (.ofString "open") 502),(.str (.ofString "out") 503),(.str (.ofString "room") 504),(.str (.ofString "row") 505),(.str (.ofString "seed") 506),(.str (.ofString "spot") 507),(.str (.ofString "steps") 508),(.str (.ofString "traces") 509)]) 0),(List.toArray [])⟩),
  (nat_lit 215, ⟨(.type "dict"),.none,(.dict (List.toArray [⟨(PyData.keyHash P (.ofString "__module__")),(.str (.ofString "__module__") 460),(.str (.ofString "basicplus.world") 451)⟩,⟨(PyData.keyHash P (.ofString "__firstlineno__")),(.str (.ofString "__firstlineno__") 464),(.int 134 463)⟩,⟨(PyData.keyHash P (.ofString "__init__")),(.str (.ofString "__init__") 481),(.ref 213)⟩,⟨(PyData.keyHash P (.ofString "__static_attributes__")),(.str (.ofString "__static_attributes__") 510),(.ref 214)⟩,⟨(PyData.keyHash P (.ofString "__dict__")),(.str (.ofString "__dict__") 512),(.ref 217)⟩,⟨(PyData.keyHash P (.ofString "__weakref__")),(.str (.ofString "__weakref__") 514),(.ref 218)⟩,⟨(PyData.keyHash P (.ofString "__doc__")),(.str (.ofString "__doc__") 515),.none⟩]) 4),(List.toArray [])⟩),
  (nat_lit 216, ⟨(.type "type"),.none,(.cls ⟨(.ofString "World"),[(.type "object")],[(.ref 216),(.type "object")],215,(.ofString "World"),Bool.true,[],[],Bool.false,.none,Bool.false⟩),(List.toArray [.none,.none,(.some (.str (.ofString "World") 453)),(.some (.str (.ofString "World") 461)),(.some (.builtin "object.__new__")),(.some (.bool Bool.true))])⟩),
  (nat_lit 217, ⟨(.type "getset_descriptor"),.none,(.fields (List.toArray [(.str (.ofString "__dict__") 511),(.ref 216),(.builtin "function.__dict__"),(.builtin "function.__dict__#set")])),(List.toArray [])⟩),
  (nat_lit 218, ⟨(.type "getset_descriptor"),.none,(.fields (List.toArray [(.str (.ofString "__weakref__") 513),(.ref 216),(.builtin "ExceptionGroup.__weakref__"),.none])),(List.toArray [])⟩),
  (nat_lit 221, ⟨(.type "tuple"),.none,(.seq (List.toArray []) 0),(List.toArray [])⟩),
  (nat_lit 223, ⟨(.type "tuple"),.none,(.seq (List.toArray [(.str (.ofString "bag") 523),(.str (.ofString "below") 524),(.str (.ofString "spot") 525)]) 0),(List.toArray [])⟩),
  (nat_lit 224, ⟨(.type "tuple"),.none,(.seq (List.toArray []) 0),(List.toArray [])⟩),
  (nat_lit 226, ⟨(.type "code"),.none,(.fields (List.toArray [(.str (.ofString "_law_choice") 520),(.str (.ofString "_law_choice") 521),(.str (.ofString "/claim/cut.py") 522),(.int 166 0),(.int 2 0),(.int 0 0),(.int 0 0),(.int 3 0),(.ref 221),(.bool Bool.true),(.int 181 0),(.ref 222),.none,(.ref 223),(.ref 224),(.ref 225),(.int 526 0),(.int 166 0),(.str (.ofString "/claim/cut.py") 527)])),(List.toArray [])⟩),
  (nat_lit 227, ⟨(.type "function"),.none,(.func ⟨(.ofString "_law_choice"),(.ofString "_law_choice"),(hP (hFd 30)),(.stmts (hB (hFd 30))),(hS (hFd 30)),3,[],.none,.none,.none,(.str (.ofString "law_xm0035_01") 518),.none,(.ref 226),.none,0⟩),(List.toArray [])⟩),
  (nat_lit 228, ⟨(.type "tuple"),.none,(.seq (List.toArray []) 0),(List.toArray [])⟩),
  (nat_lit 230, ⟨(.type "tuple"),.none,(.seq (List.toArray []) 0),(List.toArray [])⟩),
  (nat_lit 231, ⟨(.type "tuple"),.none,(.seq (List.toArray []) 0),(List.toArray [])⟩),
  (nat_lit 233, ⟨(.type "code"),.none,(.fields (List.toArray [(.str (.ofString "_law_orders") 529),(.str (.ofString "_law_orders") 530),(.str (.ofString "/claim/cut.py") 531),(.int 170 0),(.int 0 0),(.int 0 0),(.int 0 0),(.int 3 0),(.ref 228),(.bool Bool.true),(.int 181 0),(.ref 229),.none,(.ref 230),(.ref 231),(.ref 232),(.int 532 0),(.int 170 0),(.str (.ofString "/claim/cut.py") 533)])),(List.toArray [])⟩),
  (nat_lit 234, ⟨(.type "function"),.none,(.func ⟨(.ofString "_law_orders"),(.ofString "_law_orders"),(hP (hFd 31)),(.stmts (hB (hFd 31))),(hS (hFd 31)),3,[],.none,.none,.none,(.str (.ofString "law_xm0035_01") 518),.none,(.ref 233),.none,0⟩),(List.toArray [])⟩),
  (nat_lit 235, ⟨(.type "tuple"),.none,(.seq (List.toArray []) 0),(List.toArray [])⟩),
  (nat_lit 237, ⟨(.type "tuple"),.none,(.seq (List.toArray [(.str (.ofString "world") 538),(.str (.ofString "word") 539),(.str (.ofString "who") 540),(.str (.ofString "other") 541),(.str (.ofString "place") 542)]) 0),(List.toArray [])⟩),
  (nat_lit 238, ⟨(.type "tuple"),.none,(.seq (List.toArray []) 0),(List.toArray [])⟩),
  (nat_lit 240, ⟨(.type "code"),.none,(.fields (List.toArray [(.str (.ofString "_law_place") 535),(.str (.ofString "_law_place") 536),(.str (.ofString "/claim/cut.py") 537),(.int 172 0),(.int 4 0),(.int 0 0),(.int 0 0),(.int 3 0),(.ref 235),(.bool Bool.true),(.int 181 0),(.ref 236),.none,(.ref 237),(.ref 238),(.ref 239),(.int 543 0),(.int 172 0),(.str (.ofString "/claim/cut.py") 544)])),(List.toArray [])⟩),
  (nat_lit 241, ⟨(.type "function"),.none,(.func ⟨(.ofString "_law_place"),(.ofString "_law_place"),(hP (hFd 32)),(.stmts (hB (hFd 32))),(hS (hFd 32)),3,[],.none,.none,.none,(.str (.ofString "law_xm0035_01") 518),.none,(.ref 240),.none,0⟩),(List.toArray [])⟩),
  (nat_lit 242, ⟨(.type "tuple"),.none,(.seq (List.toArray []) 0),(List.toArray [])⟩),
  (nat_lit 244, ⟨(.type "tuple"),.none,(.seq (List.toArray [(.str (.ofString "world") 549),(.str (.ofString "mine") 550),(.str (.ofString "theirs") 551),(.str (.ofString "how") 552),(.str (.ofString "bag") 553),(.str (.ofString "held") 554),(.str (.ofString "places") 555),(.str (.ofString "free") 556),(.str (.ofString "asks") 557),(.str (.ofString "at") 558),(.str (.ofString "who") 559),(.str (.ofString "goal") 560),(.str (.ofString "old") 561)]) 0),(List.toArray [])⟩),
  (nat_lit 245, ⟨(.type "tuple"),.none,(.seq (List.toArray []) 0),(List.toArray [])⟩),
  (nat_lit 247, ⟨(.type "code"),.none,(.fields (List.toArray [(.str (.ofString "_law_paired") 546),(.str (.ofString "_law_paired") 547),(.str (.ofString "/claim/cut.py") 548),(.int 177 0),(.int 5 0),(.int 0 0),(.int 0 0),(.int 3 0),(.ref 242),(.bool Bool.true),(.int 181 0),(.ref 243),.none,(.ref 244),(.ref 245),(.ref 246),(.int 562 0),(.int 177 0),(.str (.ofString "/claim/cut.py") 563)])),(List.toArray [])⟩),
  (nat_lit 248, ⟨(.type "function"),.none,(.func ⟨(.ofString "_law_paired"),(.ofString "_law_paired"),(hP (hFd 33)),(.stmts (hB (hFd 33))),(hS (hFd 33)),3,[],.none,.none,.none,(.str (.ofString "law_xm0035_01") 518),.none,(.ref 247),.none,0⟩),(List.toArray [])⟩),
  (nat_lit 249, ⟨(.type "tuple"),.none,(.seq (List.toArray []) 0),(List.toArray [])⟩),
  (nat_lit 251, ⟨(.type "tuple"),.none,(.seq (List.toArray [(.str (.ofString "pairs") 568),(.str (.ofString "suitors") 569),(.str (.ofString "asked") 570),(.str (.ofString "who") 571),(.str (.ofString "goal") 572),(.str (.ofString "other") 573)]) 0),(List.toArray [])⟩),
  (nat_lit 252, ⟨(.type "tuple"),.none,(.seq (List.toArray []) 0),(List.toArray [])⟩),
  (nat_lit 254, ⟨(.type "code"),.none,(.fields (List.toArray [(.str (.ofString "_law_holds") 565),(.str (.ofString "_law_holds") 566),(.str (.ofString "/claim/cut.py") 567),(.int 194 0),(.int 3 0),(.int 0 0),(.int 0 0),(.int 3 0),(.ref 249),(.bool Bool.true),(.int 181 0),(.ref 250),.none,(.ref 251),(.ref 252),(.ref 253),(.int 574 0),(.int 194 0),(.str (.ofString "/claim/cut.py") 575)])),(List.toArray [])⟩),
  (nat_lit 255, ⟨(.type "function"),.none,(.func ⟨(.ofString "_law_holds"),(.ofString "_law_holds"),(hP (hFd 34)),(.stmts (hB (hFd 34))),(hS (hFd 34)),3,[],.none,.none,.none,(.str (.ofString "law_xm0035_01") 518),.none,(.ref 254),.none,0⟩),(List.toArray [])⟩),
  (nat_lit 256, ⟨(.type "tuple"),.none,(.seq (List.toArray []) 0),(List.toArray [])⟩),
  (nat_lit 259, ⟨(.type "code"),.none,(.fields (List.toArray [(.str (.ofString "_law_ends") 577),(.str (.ofString "_law_ends") 578),(.str (.ofString "/claim/cut.py") 579),(.int 201 0),(.int 4 0),(.int 0 0),(.int 0 0),(.int 3 0),(.ref 256),(.bool Bool.true),(.int 181 0),(.ref 257),.none,.none,.none,(.ref 258),(.int 580 0),(.int 201 0),(.str (.ofString "/claim/cut.py") 581)])),(List.toArray [])⟩),
  (nat_lit 260, ⟨(.type "function"),.none,(.func ⟨(.ofString "_law_ends"),(.ofString "_law_ends"),(hP (hFd 35)),(.stmts (hB (hFd 35))),(hS (hFd 35)),3,[],.none,.none,.none,(.str (.ofString "law_xm0035_01") 518),.none,(.ref 259),.none,0⟩),(List.toArray [])⟩),
  (nat_lit 261, ⟨(.type "tuple"),.none,(.seq (List.toArray []) 0),(List.toArray [])⟩),
  (nat_lit 264, ⟨(.type "code"),.none,(.fields (List.toArray [(.str (.ofString "_law_turned") 583),(.str (.ofString "_law_turned") 584),(.str (.ofString "/claim/cut.py") 585),(.int 207 0),(.int 1 0),(.int 0 0),(.int 0 0),(.int 3 0),(.ref 261),(.bool Bool.true),(.int 181 0),(.ref 262),.none,.none,.none,(.ref 263),(.int 586 0),(.int 207 0),(.str (.ofString "/claim/cut.py") 587)])),(List.toArray [])⟩),
  (nat_lit 265, ⟨(.type "function"),.none,(.func ⟨(.ofString "_law_turned"),(.ofString "_law_turned"),(hP (hFd 36)),(.stmts (hB (hFd 36))),(hS (hFd 36)),3,[],.none,.none,.none,(.str (.ofString "law_xm0035_01") 518),.none,(.ref 264),.none,0⟩),(List.toArray [])⟩),
  (nat_lit 266, ⟨(.type "tuple"),.none,(.seq (List.toArray []) 0),(List.toArray [])⟩),
  (nat_lit 269, ⟨(.type "code"),.none,(.fields (List.toArray [(.str (.ofString "law") 589),(.str (.ofString "law") 590),(.str (.ofString "/claim/cut.py") 591),(.int 209 0),(.int 1 0),(.int 0 0),(.int 0 0),(.int 3 0),(.ref 266),(.bool Bool.true),(.int 181 0),(.ref 267),.none,.none,.none,(.ref 268),(.int 592 0),(.int 209 0),(.str (.ofString "/claim/cut.py") 593)])),(List.toArray [])⟩),
  (nat_lit 270, ⟨(.type "function"),.none,(.func ⟨(.ofString "law"),(.ofString "law"),(hP (hFd 37)),(.stmts (hB (hFd 37))),(hS (hFd 37)),3,[],.none,.none,.none,(.str (.ofString "law_xm0035_01") 518),.none,(.ref 269),.none,0⟩),(List.toArray [])⟩)] → Frag)
  case f => exact fun K _ => K
  · conv => arg 2; zeta
    repeat (conv => arg 2; pattern hB _; whnf)
    repeat (conv => arg 2; pattern hP _; whnf)
    repeat (conv => arg 2; pattern hS _; whnf)
    conv => arg 2; zeta
    exact (⟨rfl⟩ : Same ((nat_lit 2, _) :: (nat_lit 3, _) :: (nat_lit 15, _) :: (nat_lit 18, _) :: (nat_lit 23, _) :: (nat_lit 24, _) :: (nat_lit 25, _) :: (nat_lit 27, _) :: (nat_lit 28, _) :: (nat_lit 30, _) :: (nat_lit 31, _) :: (nat_lit 32, _) :: (nat_lit 33, _) :: (nat_lit 34, _) :: (nat_lit 35, _) :: (nat_lit 38, _) :: (nat_lit 40, _) :: (nat_lit 41, _) :: (nat_lit 43, _) :: (nat_lit 44, _) :: (nat_lit 45, _) :: (nat_lit 47, _) :: (nat_lit 48, _) :: (nat_lit 50, _) :: (nat_lit 51, _) :: (nat_lit 52, _) :: (nat_lit 54, _) :: (nat_lit 55, _) :: (nat_lit 57, _) :: (nat_lit 58, _) :: (nat_lit 59, _) :: (nat_lit 61, _) :: (nat_lit 62, _) :: (nat_lit 64, _) :: (nat_lit 65, _) :: (nat_lit 66, _) :: (nat_lit 68, _) :: (nat_lit 69, _) :: (nat_lit 71, _) :: (nat_lit 72, _) :: (nat_lit 73, _) :: (nat_lit 75, _) :: (nat_lit 76, _) :: (nat_lit 78, _) :: (nat_lit 79, _) :: (nat_lit 80, _) :: (nat_lit 82, _) :: (nat_lit 83, _) :: (nat_lit 85, _) :: (nat_lit 86, _) :: (nat_lit 87, _) :: (nat_lit 89, _) :: (nat_lit 90, _) :: (nat_lit 92, _) :: (nat_lit 93, _) :: (nat_lit 94, _) :: (nat_lit 96, _) :: (nat_lit 97, _) :: (nat_lit 99, _) :: (nat_lit 100, _) :: (nat_lit 101, _) :: (nat_lit 103, _) :: (nat_lit 104, _) :: (nat_lit 106, _) :: (nat_lit 107, _) :: (nat_lit 108, _) :: (nat_lit 110, _) :: (nat_lit 111, _) :: (nat_lit 113, _) :: (nat_lit 114, _) :: (nat_lit 115, _) :: (nat_lit 117, _) :: (nat_lit 118, _) :: (nat_lit 120, _) :: (nat_lit 121, _) :: (nat_lit 129, _) :: (nat_lit 131, _) :: (nat_lit 132, _) :: (nat_lit 134, _) :: (nat_lit 135, _) :: (nat_lit 136, _) :: (nat_lit 137, _) :: (nat_lit 138, _) :: (nat_lit 139, _) :: (nat_lit 140, _) :: (nat_lit 143, _) :: (nat_lit 145, _) :: (nat_lit 146, _) :: (nat_lit 148, _) :: (nat_lit 149, _) :: (nat_lit 150, _) :: (nat_lit 152, _) :: (nat_lit 153, _) :: (nat_lit 155, _) :: (nat_lit 156, _) :: (nat_lit 157, _) :: (nat_lit 159, _) :: (nat_lit 160, _) :: (nat_lit 162, _) :: (nat_lit 163, _) :: (nat_lit 164, _) :: (nat_lit 166, _) :: (nat_lit 167, _) :: (nat_lit 169, _) :: (nat_lit 170, _) :: (nat_lit 171, _) :: (nat_lit 173, _) :: (nat_lit 174, _) :: (nat_lit 176, _) :: (nat_lit 177, _) :: (nat_lit 178, _) :: (nat_lit 180, _) :: (nat_lit 181, _) :: (nat_lit 183, _) :: (nat_lit 184, _) :: (nat_lit 185, _) :: (nat_lit 187, _) :: (nat_lit 188, _) :: (nat_lit 190, _) :: (nat_lit 191, _) :: (nat_lit 192, _) :: (nat_lit 194, _) :: (nat_lit 195, _) :: (nat_lit 197, _) :: (nat_lit 198, _) :: (nat_lit 206, _) :: (nat_lit 207, _) :: (nat_lit 209, _) :: (nat_lit 210, _) :: (nat_lit 212, _) :: (nat_lit 213, _) :: (nat_lit 214, _) :: (nat_lit 215, _) :: (nat_lit 216, _) :: (nat_lit 217, _) :: (nat_lit 218, _) :: (nat_lit 221, _) :: (nat_lit 223, _) :: (nat_lit 224, _) :: (nat_lit 226, _) :: (nat_lit 227, _) :: (nat_lit 228, _) :: (nat_lit 230, _) :: (nat_lit 231, _) :: (nat_lit 233, _) :: (nat_lit 234, _) :: (nat_lit 235, _) :: (nat_lit 237, _) :: (nat_lit 238, _) :: (nat_lit 240, _) :: (nat_lit 241, _) :: (nat_lit 242, _) :: (nat_lit 244, _) :: (nat_lit 245, _) :: (nat_lit 247, _) :: (nat_lit 248, _) :: (nat_lit 249, _) :: (nat_lit 251, _) :: (nat_lit 252, _) :: (nat_lit 254, _) :: (nat_lit 255, _) :: (nat_lit 256, _) :: (nat_lit 259, _) :: (nat_lit 260, _) :: (nat_lit 261, _) :: (nat_lit 264, _) :: (nat_lit 265, _) :: (nat_lit 266, _) :: (nat_lit 269, _) :: (nat_lit 270, _) :: []) _)
noncomputable def asK : List Addr := [2, 3, 15, 18, 23, 24, 25, 27, 28, 30, 31, 32, 33, 34, 35, 38, 40, 41, 43, 44, 45, 47, 48, 50, 51, 52, 54, 55, 57, 58, 59, 61, 62, 64, 65, 66, 68, 69, 71, 72, 73, 75, 76, 78, 79, 80, 82, 83, 85, 86, 87, 89, 90, 92, 93, 94, 96, 97, 99, 100, 101, 103, 104, 106, 107, 108, 110, 111, 113, 114, 115, 117, 118, 120, 121, 129, 131, 132, 134, 135, 136, 137, 138, 139, 140, 143, 145, 146, 148, 149, 150, 152, 153, 155, 156, 157, 159, 160, 162, 163, 164, 166, 167, 169, 170, 171, 173, 174, 176, 177, 178, 180, 181, 183, 184, 185, 187, 188, 190, 191, 192, 194, 195, 197, 198, 206, 207, 209, 210, 212, 213, 214, 215, 216, 217, 218, 221, 223, 224, 226, 227, 228, 230, 231, 233, 234, 235, 237, 238, 240, 241, 242, 244, 245, 247, 248, 249, 251, 252, 254, 255, 256, 259, 260, 261, 264, 265, 266, 269, 270]
/-- the other objects that stand when the top is through -/
noncomputable def HO : Params → Frag := fun P => [
  (0, (boot_o_0 P)),
  (1, (boot_o_1 P)),
  (4, (boot_o_4 P)),
  (5, (boot_o_5 P)),
  (6, (boot_o_6 P)),
  (7, (boot_o_7 P)),
  (8, (boot_o_8 P)),
  (9, (boot_o_9 P)),
  (10, (boot_o_10 P)),
  (11, ⟨(.type "tuple"),.none,(.seq (List.toArray []) 0),(List.toArray [])⟩),
  (12, ⟨.none,.none,(.fields (List.toArray [(.int 4 0),(.int 0 0),(.ref 21),(.int 10 0),(.int 0 0),(.ref 43),(.int 17 0),(.int 0 0),(.ref 50),(.int 21 0),(.int 0 0),(.ref 57),(.int 27 0),(.int 0 0),(.ref 64),(.int 37 0),(.int 0 0),(.ref 71),(.int 52 0),(.int 0 0),(.ref 78),(.int 58 0),(.int 0 0),(.ref 85),(.int 60 0),(.int 0 0),(.ref 92),(.int 67 0),(.int 0 0),(.ref 99),(.int 71 0),(.int 0 0),(.ref 106),(.int 75 0),(.int 0 0),(.ref 113),(.int 79 0),(.int 0 0),(.ref 120),(.int 85 0),(.int 0 0),(.ref 127),(.int 93 0),(.int 0 0),(.ref 148),(.int 98 0),(.int 0 0),(.ref 155),(.int 100 0),(.int 0 0),(.ref 162),(.int 108 0),(.int 0 0),(.ref 169),(.int 113 0),(.int 0 0),(.ref 176),(.int 117 0),(.int 0 0),(.ref 183),(.int 126 0),(.int 0 0),(.ref 190),(.int 129 0),(.int 0 0),(.ref 197),(.int 134 0),(.int 0 0),(.ref 204),(.int 166 0),(.int 0 0),(.ref 226),(.int 170 0),(.int 0 0),(.ref 233),(.int 172 0),(.int 0 0),(.ref 240),(.int 177 0),(.int 0 0),(.ref 247),(.int 194 0),(.int 0 0),(.ref 254),(.int 201 0),(.int 0 0),(.ref 259),(.int 207 0),(.int 0 0),(.ref 264),(.int 209 0),(.int 0 0),(.ref 269)])),(List.toArray [])⟩),
  (13, ⟨(.type "code"),.none,(.fields (List.toArray [(.str (.ofString "<module>") 182),(.str (.ofString "<module>") 183),(.str (.ofString "/claim/cut.py") 184),(.int 1 0),(.int 0 0),(.int 0 0),(.int 0 0),(.int 0 0),(.ref 11),(.bool Bool.false),(.int 181 0),(.ref 12),.none,.none,.none,.none,(.int 185 0),(.int 1 0),(.str (.ofString "/claim/cut.py") 186)])),(List.toArray [])⟩),
  (14, ⟨(.type "frame"),.none,PySem.Data.plain,(List.toArray [(.some (.ref 13)),(.some (.ref 3)),(.some (.ref 3)),.none,(.some (.str (.ofString "__main__") 164)),.none,(.some (.ref 0))])⟩),
  (16, ⟨(.type "builtin_function_or_method"),.none,(.fields (List.toArray [(.builtin "type.__prepare__"),(.type "type")])),(List.toArray [])⟩),
  (17, ⟨(.type "dict"),.none,(.dict (List.toArray [⟨(PyData.keyHash P (.ofString "__module__")),(.str (.ofString "__module__") 200),(.str (.ofString "basicplus.values") 187)⟩,⟨(PyData.keyHash P (.ofString "__qualname__")),(.str (.ofString "__qualname__") 202),(.str (.ofString "BasicError") 201)⟩,⟨(PyData.keyHash P (.ofString "__firstlineno__")),(.str (.ofString "__firstlineno__") 204),(.int 4 203)⟩,⟨(PyData.keyHash P (.ofString "__init__")),(.str (.ofString "__init__") 215),(.ref 31)⟩,⟨(PyData.keyHash P (.ofString "__static_attributes__")),(.str (.ofString "__static_attributes__") 218),(.ref 32)⟩,⟨(PyData.keyHash P (.ofString "__classcell__")),(.str (.ofString "__classcell__") 219),(.ref 18)⟩]) 6),(List.toArray [])⟩),
  (19, ⟨(.type "tuple"),.none,(.seq (List.toArray []) 0),(List.toArray [])⟩),
  (20, ⟨.none,.none,(.fields (List.toArray [(.int 6 0),(.int 4 0),(.ref 30)])),(List.toArray [])⟩),
  (21, ⟨(.type "code"),.none,(.fields (List.toArray [(.str (.ofString "BasicError") 195),(.str (.ofString "BasicError") 196),(.str (.ofString "/claim/cut.py") 197),(.int 4 0),(.int 0 0),(.int 0 0),(.int 0 0),(.int 0 0),(.ref 19),(.bool Bool.false),(.int 181 0),(.ref 20),.none,.none,.none,.none,(.int 198 0),(.int 4 0),(.str (.ofString "/claim/cut.py") 199)])),(List.toArray [])⟩),
  (22, ⟨(.type "frame"),.none,PySem.Data.plain,(List.toArray [(.some (.ref 21)),(.some (.ref 3)),(.some (.ref 17)),.none,(.some (.str (.ofString "basicplus.values") 187)),.none,(.some (.ref 0))])⟩),
  (26, ⟨.none,.none,(.fields (List.toArray [])),(List.toArray [])⟩),
  (29, ⟨.none,.none,(.func ⟨(.ofString "__init__"),(.ofString "BasicError.__init__"),(hP (hCd 3 0)),(.stmts (hB (hCd 3 0))),(hS (hCd 3 0)),0,[],.none,.none,.none,.none,.none,.none,.none,0⟩),(List.toArray [])⟩),
  (36, ⟨(.type "super"),.none,(.fields (List.toArray [(.ref 34),(.ref 34),(.ref 34)])),(List.toArray [])⟩),
  (37, ⟨(.type "builtin_function_or_method"),.none,(.fields (List.toArray [(.builtin "object.__init_subclass__"),(.ref 34)])),(List.toArray [])⟩),
  (39, ⟨.none,.none,(.fields (List.toArray [])),(List.toArray [])⟩),
  (42, ⟨.none,.none,(.func ⟨(.ofString "kind_of_name"),(.ofString "kind_of_name"),(hP (hFd 4)),(.stmts (hB (hFd 4))),(hS (hFd 4)),0,[],.none,.none,.none,.none,.none,.none,.none,0⟩),(List.toArray [])⟩),
  (46, ⟨.none,.none,(.fields (List.toArray [])),(List.toArray [])⟩),
  (49, ⟨.none,.none,(.func ⟨(.ofString "first_value"),(.ofString "first_value"),(hP (hFd 5)),(.stmts (hB (hFd 5))),(hS (hFd 5)),0,[],.none,.none,.none,.none,.none,.none,.none,0⟩),(List.toArray [])⟩),
  (53, ⟨.none,.none,(.fields (List.toArray [])),(List.toArray [])⟩),
  (56, ⟨.none,.none,(.func ⟨(.ofString "figures_of"),(.ofString "figures_of"),(hP (hFd 6)),(.stmts (hB (hFd 6))),(hS (hFd 6)),0,[],.none,.none,.none,.none,.none,.none,.none,0⟩),(List.toArray [])⟩),
  (60, ⟨.none,.none,(.fields (List.toArray [])),(List.toArray [])⟩),
  (63, ⟨.none,.none,(.func ⟨(.ofString "rounded_by"),(.ofString "rounded_by"),(hP (hFd 7)),(.stmts (hB (hFd 7))),(hS (hFd 7)),0,[],.none,.none,.none,.none,.none,.none,.none,0⟩),(List.toArray [])⟩),
  (67, ⟨.none,.none,(.fields (List.toArray [])),(List.toArray [])⟩),
  (70, ⟨.none,.none,(.func ⟨(.ofString "made"),(.ofString "made"),(hP (hFd 8)),(.stmts (hB (hFd 8))),(hS (hFd 8)),0,[],.none,.none,.none,.none,.none,.none,.none,0⟩),(List.toArray [])⟩),
  (74, ⟨.none,.none,(.fields (List.toArray [])),(List.toArray [])⟩),
  (77, ⟨.none,.none,(.func ⟨(.ofString "whole_near"),(.ofString "whole_near"),(hP (hFd 9)),(.stmts (hB (hFd 9))),(hS (hFd 9)),0,[],.none,.none,.none,.none,.none,.none,.none,0⟩),(List.toArray [])⟩),
  (81, ⟨.none,.none,(.fields (List.toArray [])),(List.toArray [])⟩),
  (84, ⟨.none,.none,(.func ⟨(.ofString "fits"),(.ofString "fits"),(hP (hFd 10)),(.stmts (hB (hFd 10))),(hS (hFd 10)),0,[],.none,.none,.none,.none,.none,.none,.none,0⟩),(List.toArray [])⟩),
  (88, ⟨.none,.none,(.fields (List.toArray [])),(List.toArray [])⟩),
  (91, ⟨.none,.none,(.func ⟨(.ofString "whole_of"),(.ofString "whole_of"),(hP (hFd 11)),(.stmts (hB (hFd 11))),(hS (hFd 11)),0,[],.none,.none,.none,.none,.none,.none,.none,0⟩),(List.toArray [])⟩),
  (95, ⟨.none,.none,(.fields (List.toArray [])),(List.toArray [])⟩),
  (98, ⟨.none,.none,(.func ⟨(.ofString "decimal_of"),(.ofString "decimal_of"),(hP (hFd 12)),(.stmts (hB (hFd 12))),(hS (hFd 12)),0,[],.none,.none,.none,.none,.none,.none,.none,0⟩),(List.toArray [])⟩),
  (102, ⟨.none,.none,(.fields (List.toArray [])),(List.toArray [])⟩),
  (105, ⟨.none,.none,(.func ⟨(.ofString "text_of"),(.ofString "text_of"),(hP (hFd 13)),(.stmts (hB (hFd 13))),(hS (hFd 13)),0,[],.none,.none,.none,.none,.none,.none,.none,0⟩),(List.toArray [])⟩),
  (109, ⟨.none,.none,(.fields (List.toArray [])),(List.toArray [])⟩),
  (112, ⟨.none,.none,(.func ⟨(.ofString "checked_text"),(.ofString "checked_text"),(hP (hFd 14)),(.stmts (hB (hFd 14))),(hS (hFd 14)),0,[],.none,.none,.none,.none,.none,.none,.none,0⟩),(List.toArray [])⟩),
  (116, ⟨.none,.none,(.fields (List.toArray [])),(List.toArray [])⟩),
  (119, ⟨.none,.none,(.func ⟨(.ofString "suited"),(.ofString "suited"),(hP (hFd 15)),(.stmts (hB (hFd 15))),(hS (hFd 15)),0,[],.none,.none,.none,.none,.none,.none,.none,0⟩),(List.toArray [])⟩),
  (122, ⟨(.type "tuple"),.none,(.seq (List.toArray []) 0),(List.toArray [])⟩),
  (123, ⟨(.type "builtin_function_or_method"),.none,(.fields (List.toArray [(.builtin "type.__prepare__"),(.type "type")])),(List.toArray [])⟩),
  (124, ⟨(.type "dict"),.none,(.dict (List.toArray [⟨(PyData.keyHash P (.ofString "__module__")),(.str (.ofString "__module__") 345),(.str (.ofString "basicplus.arrays") 334)⟩,⟨(PyData.keyHash P (.ofString "__qualname__")),(.str (.ofString "__qualname__") 347),(.str (.ofString "Grid") 346)⟩,⟨(PyData.keyHash P (.ofString "__firstlineno__")),(.str (.ofString "__firstlineno__") 349),(.int 85 348)⟩,⟨(PyData.keyHash P (.ofString "__init__")),(.str (.ofString "__init__") 359),(.ref 135)⟩,⟨(PyData.keyHash P (.ofString "__static_attributes__")),(.str (.ofString "__static_attributes__") 365),(.ref 136)⟩]) 5),(List.toArray [])⟩),
  (125, ⟨(.type "tuple"),.none,(.seq (List.toArray []) 0),(List.toArray [])⟩),
  (126, ⟨.none,.none,(.fields (List.toArray [(.int 87 0),(.int 4 0),(.ref 134)])),(List.toArray [])⟩),
  (127, ⟨(.type "code"),.none,(.fields (List.toArray [(.str (.ofString "Grid") 340),(.str (.ofString "Grid") 341),(.str (.ofString "/claim/cut.py") 342),(.int 85 0),(.int 0 0),(.int 0 0),(.int 0 0),(.int 0 0),(.ref 125),(.bool Bool.false),(.int 181 0),(.ref 126),.none,.none,.none,.none,(.int 343 0),(.int 85 0),(.str (.ofString "/claim/cut.py") 344)])),(List.toArray [])⟩),
  (128, ⟨(.type "frame"),.none,PySem.Data.plain,(List.toArray [(.some (.ref 127)),(.some (.ref 3)),(.some (.ref 124)),.none,(.some (.str (.ofString "basicplus.arrays") 334)),.none,(.some (.ref 0))])⟩),
  (130, ⟨.none,.none,(.fields (List.toArray [])),(List.toArray [])⟩),
  (133, ⟨.none,.none,(.func ⟨(.ofString "__init__"),(.ofString "Grid.__init__"),(hP (hCd 18 0)),(.stmts (hB (hCd 18 0))),(hS (hCd 18 0)),0,[],.none,.none,.none,.none,.none,.none,.none,0⟩),(List.toArray [])⟩),
  (141, ⟨(.type "super"),.none,(.fields (List.toArray [(.ref 138),(.ref 138),(.ref 138)])),(List.toArray [])⟩),
  (142, ⟨(.type "builtin_function_or_method"),.none,(.fields (List.toArray [(.builtin "object.__init_subclass__"),(.ref 138)])),(List.toArray [])⟩),
  (144, ⟨.none,.none,(.fields (List.toArray [])),(List.toArray [])⟩),
  (147, ⟨.none,.none,(.func ⟨(.ofString "count_of"),(.ofString "count_of"),(hP (hFd 19)),(.stmts (hB (hFd 19))),(hS (hFd 19)),0,[],.none,.none,.none,.none,.none,.none,.none,0⟩),(List.toArray [])⟩),
  (151, ⟨.none,.none,(.fields (List.toArray [])),(List.toArray [])⟩),
  (154, ⟨.none,.none,(.func ⟨(.ofString "kind_in"),(.ofString "kind_in"),(hP (hFd 20)),(.stmts (hB (hFd 20))),(hS (hFd 20)),0,[],.none,.none,.none,.none,.none,.none,.none,0⟩),(List.toArray [])⟩),
  (158, ⟨.none,.none,(.fields (List.toArray [])),(List.toArray [])⟩),
  (161, ⟨.none,.none,(.func ⟨(.ofString "check_highs"),(.ofString "check_highs"),(hP (hFd 21)),(.stmts (hB (hFd 21))),(hS (hFd 21)),0,[],.none,.none,.none,.none,.none,.none,.none,0⟩),(List.toArray [])⟩),
  (165, ⟨.none,.none,(.fields (List.toArray [])),(List.toArray [])⟩),
  (168, ⟨.none,.none,(.func ⟨(.ofString "dim"),(.ofString "dim"),(hP (hFd 22)),(.stmts (hB (hFd 22))),(hS (hFd 22)),0,[],.none,.none,.none,.none,.none,.none,.none,0⟩),(List.toArray [])⟩),
  (172, ⟨.none,.none,(.fields (List.toArray [])),(List.toArray [])⟩),
  (175, ⟨.none,.none,(.func ⟨(.ofString "grid_of"),(.ofString "grid_of"),(hP (hFd 23)),(.stmts (hB (hFd 23))),(hS (hFd 23)),0,[],.none,.none,.none,.none,.none,.none,.none,0⟩),(List.toArray [])⟩),
  (179, ⟨.none,.none,(.fields (List.toArray [])),(List.toArray [])⟩),
  (182, ⟨.none,.none,(.func ⟨(.ofString "place_of"),(.ofString "place_of"),(hP (hFd 24)),(.stmts (hB (hFd 24))),(hS (hFd 24)),0,[],.none,.none,.none,.none,.none,.none,.none,0⟩),(List.toArray [])⟩),
  (186, ⟨.none,.none,(.fields (List.toArray [])),(List.toArray [])⟩),
  (189, ⟨.none,.none,(.func ⟨(.ofString "get_item"),(.ofString "get_item"),(hP (hFd 25)),(.stmts (hB (hFd 25))),(hS (hFd 25)),0,[],.none,.none,.none,.none,.none,.none,.none,0⟩),(List.toArray [])⟩),
  (193, ⟨.none,.none,(.fields (List.toArray [])),(List.toArray [])⟩),
  (196, ⟨.none,.none,(.func ⟨(.ofString "set_item"),(.ofString "set_item"),(hP (hFd 26)),(.stmts (hB (hFd 26))),(hS (hFd 26)),0,[],.none,.none,.none,.none,.none,.none,.none,0⟩),(List.toArray [])⟩),
  (199, ⟨(.type "tuple"),.none,(.seq (List.toArray []) 0),(List.toArray [])⟩),
  (200, ⟨(.type "builtin_function_or_method"),.none,(.fields (List.toArray [(.builtin "type.__prepare__"),(.type "type")])),(List.toArray [])⟩),
  (201, ⟨(.type "dict"),.none,(.dict (List.toArray [⟨(PyData.keyHash P (.ofString "__module__")),(.str (.ofString "__module__") 460),(.str (.ofString "basicplus.world") 451)⟩,⟨(PyData.keyHash P (.ofString "__qualname__")),(.str (.ofString "__qualname__") 462),(.str (.ofString "World") 461)⟩,⟨(PyData.keyHash P (.ofString "__firstlineno__")),(.str (.ofString "__firstlineno__") 464),(.int 134 463)⟩,⟨(PyData.keyHash P (.ofString "__init__")),(.str (.ofString "__init__") 481),(.ref 213)⟩,⟨(PyData.keyHash P (.ofString "__static_attributes__")),(.str (.ofString "__static_attributes__") 510),(.ref 214)⟩]) 5),(List.toArray [])⟩),
  (202, ⟨(.type "tuple"),.none,(.seq (List.toArray []) 0),(List.toArray [])⟩),
  (203, ⟨.none,.none,(.fields (List.toArray [(.int 136 0),(.int 4 0),(.ref 212)])),(List.toArray [])⟩),
  (204, ⟨(.type "code"),.none,(.fields (List.toArray [(.str (.ofString "World") 455),(.str (.ofString "World") 456),(.str (.ofString "/claim/cut.py") 457),(.int 134 0),(.int 0 0),(.int 0 0),(.int 0 0),(.int 0 0),(.ref 202),(.bool Bool.false),(.int 181 0),(.ref 203),.none,.none,.none,.none,(.int 458 0),(.int 134 0),(.str (.ofString "/claim/cut.py") 459)])),(List.toArray [])⟩),
  (205, ⟨(.type "frame"),.none,PySem.Data.plain,(List.toArray [(.some (.ref 204)),(.some (.ref 3)),(.some (.ref 201)),.none,(.some (.str (.ofString "basicplus.world") 451)),.none,(.some (.ref 0))])⟩),
  (208, ⟨.none,.none,(.fields (List.toArray [])),(List.toArray [])⟩),
  (211, ⟨.none,.none,(.func ⟨(.ofString "__init__"),(.ofString "World.__init__"),(hP (hCd 28 0)),(.stmts (hB (hCd 28 0))),(hS (hCd 28 0)),0,[],.none,.none,.none,.none,.none,.none,.none,0⟩),(List.toArray [])⟩),
  (219, ⟨(.type "super"),.none,(.fields (List.toArray [(.ref 216),(.ref 216),(.ref 216)])),(List.toArray [])⟩),
  (220, ⟨(.type "builtin_function_or_method"),.none,(.fields (List.toArray [(.builtin "object.__init_subclass__"),(.ref 216)])),(List.toArray [])⟩),
  (222, ⟨.none,.none,(.fields (List.toArray [])),(List.toArray [])⟩),
  (225, ⟨.none,.none,(.func ⟨(.ofString "_law_choice"),(.ofString "_law_choice"),(hP (hFd 30)),(.stmts (hB (hFd 30))),(hS (hFd 30)),0,[],.none,.none,.none,.none,.none,.none,.none,0⟩),(List.toArray [])⟩),
  (229, ⟨.none,.none,(.fields (List.toArray [])),(List.toArray [])⟩),
  (232, ⟨.none,.none,(.func ⟨(.ofString "_law_orders"),(.ofString "_law_orders"),(hP (hFd 31)),(.stmts (hB (hFd 31))),(hS (hFd 31)),0,[],.none,.none,.none,.none,.none,.none,.none,0⟩),(List.toArray [])⟩),
  (236, ⟨.none,.none,(.fields (List.toArray [])),(List.toArray [])⟩),
  (239, ⟨.none,.none,(.func ⟨(.ofString "_law_place"),(.ofString "_law_place"),(hP (hFd 32)),(.stmts (hB (hFd 32))),(hS (hFd 32)),0,[],.none,.none,.none,.none,.none,.none,.none,0⟩),(List.toArray [])⟩),
  (243, ⟨.none,.none,(.fields (List.toArray [])),(List.toArray [])⟩),
  (246, ⟨.none,.none,(.func ⟨(.ofString "_law_paired"),(.ofString "_law_paired"),(hP (hFd 33)),(.stmts (hB (hFd 33))),(hS (hFd 33)),0,[],.none,.none,.none,.none,.none,.none,.none,0⟩),(List.toArray [])⟩),
  (250, ⟨.none,.none,(.fields (List.toArray [])),(List.toArray [])⟩),
  (253, ⟨.none,.none,(.func ⟨(.ofString "_law_holds"),(.ofString "_law_holds"),(hP (hFd 34)),(.stmts (hB (hFd 34))),(hS (hFd 34)),0,[],.none,.none,.none,.none,.none,.none,.none,0⟩),(List.toArray [])⟩),
  (257, ⟨.none,.none,(.fields (List.toArray [])),(List.toArray [])⟩),
  (258, ⟨.none,.none,(.func ⟨(.ofString "_law_ends"),(.ofString "_law_ends"),(hP (hFd 35)),(.stmts (hB (hFd 35))),(hS (hFd 35)),0,[],.none,.none,.none,.none,.none,.none,.none,0⟩),(List.toArray [])⟩),
  (262, ⟨.none,.none,(.fields (List.toArray [])),(List.toArray [])⟩),
  (263, ⟨.none,.none,(.func ⟨(.ofString "_law_turned"),(.ofString "_law_turned"),(hP (hFd 36)),(.stmts (hB (hFd 36))),(hS (hFd 36)),0,[],.none,.none,.none,.none,.none,.none,.none,0⟩),(List.toArray [])⟩),
  (267, ⟨.none,.none,(.fields (List.toArray [])),(List.toArray [])⟩),
  (268, ⟨.none,.none,(.func ⟨(.ofString "law"),(.ofString "law"),(hP (hFd 37)),(.stmts (hB (hFd 37))),(hS (hFd 37)),0,[],.none,.none,.none,.none,.none,.none,.none,0⟩),(List.toArray [])⟩)]
noncomputable def lookN : Frag → Nat → Option Obj
  | [], _ => none
  | x :: r, a => match Nat.beq x.1 a with
    | true => some x.2
    | false => lookN r a
noncomputable def ob (P : Params) (a : Nat) : Obj := match lookN (HK P) a with
  | some o => o
  | none => (match lookN (HO P) a with
    | some o => o
    | none => default)
noncomputable def mkF (f : Nat → Obj) (n : Nat) : Nat → Nat → Nat → BT
  | 0, _, _ => .nil
  | k + 1, a, b => match Nat.blt b n with
    | true => .node (f b) (mkF f n k (2 * a) (a + b)) (mkF f n k (2 * a) (2 * a + b))
    | false => .nil
noncomputable def lsF (f : Nat → Obj) : Nat → Nat → List Obj
  | 0, _ => []
  | k + 1, a => f a :: lsF f k (a + 1)
noncomputable def M0 (P : Params) (b : Nat) : Obj := match Nat.beq b 2 with
  | true => ⟨.none,.none,(.dict (List.toArray []) 0),(List.toArray [])⟩
  | false => (match Nat.beq b 3 with
  | true => ⟨(.type "dict"),.none,(.dict (List.toArray [⟨(PyData.keyHash P (.ofString "__name__")),(.str (.ofString "__name__") 165),(.str (.ofString "__main__") 164)⟩,⟨(PyData.keyHash P (.ofString "__doc__")),(.str (.ofString "__doc__") 166),.none⟩,⟨(PyData.keyHash P (.ofString "__package__")),(.str (.ofString "__package__") 167),.none⟩,⟨(PyData.keyHash P (.ofString "__loader__")),(.str (.ofString "__loader__") 168),(.builtin "__main__.__loader__#opaque")⟩,⟨(PyData.keyHash P (.ofString "__spec__")),(.str (.ofString "__spec__") 169),.none⟩,⟨(PyData.keyHash P (.ofString "__annotations__")),(.str (.ofString "__annotations__") 170),(.ref 6)⟩,⟨(PyData.keyHash P (.ofString "__builtins__")),(.str (.ofString "__builtins__") 171),(.ref 4)⟩,⟨(PyData.keyHash P (.ofString "__file__")),(.str (.ofString "__file__") 173),(.str (.ofString "/claim/cut.py") 172)⟩,⟨(PyData.keyHash P (.ofString "__cached__")),(.str (.ofString "__cached__") 174),.none⟩]) 9),(List.toArray [])⟩
  | false => (match Nat.beq b 12 with
    | true => ⟨.none,.none,(.fields (List.toArray [])),(List.toArray [])⟩
    | false => ob P b))
noncomputable def M1 (P : Params) (b : Nat) : Obj := match Nat.beq b 3 with
  | true => ⟨(.type "dict"),.none,(.dict (List.toArray [⟨(PyData.keyHash P (.ofString "__name__")),(.str (.ofString "__name__") 165),(.str (.ofString "basicplus.values") 187)⟩,⟨(PyData.keyHash P (.ofString "__doc__")),(.str (.ofString "__doc__") 166),.none⟩,⟨(PyData.keyHash P (.ofString "__package__")),(.str (.ofString "__package__") 167),.none⟩,⟨(PyData.keyHash P (.ofString "__loader__")),(.str (.ofString "__loader__") 168),(.builtin "__main__.__loader__#opaque")⟩,⟨(PyData.keyHash P (.ofString "__spec__")),(.str (.ofString "__spec__") 169),.none⟩,⟨(PyData.keyHash P (.ofString "__annotations__")),(.str (.ofString "__annotations__") 170),(.ref 6)⟩,⟨(PyData.keyHash P (.ofString "__builtins__")),(.str (.ofString "__builtins__") 171),(.ref 4)⟩,⟨(PyData.keyHash P (.ofString "__file__")),(.str (.ofString "__file__") 173),(.str (.ofString "/claim/cut.py") 172)⟩,⟨(PyData.keyHash P (.ofString "__cached__")),(.str (.ofString "__cached__") 174),.none⟩,⟨(PyData.keyHash P (.ofString "MOST_TEXT")),(.str (.ofString "MOST_TEXT") 190),(.int 255 189)⟩,⟨(PyData.keyHash P (.ofString "MOST_EXPONENT")),(.str (.ofString "MOST_EXPONENT") 192),(.int 99 191)⟩,⟨(PyData.keyHash P (.ofString "BasicError")),(.str (.ofString "BasicError") 226),(.ref 34)⟩,⟨(PyData.keyHash P (.ofString "kind_of_name")),(.str (.ofString "kind_of_name") 235),(.ref 44)⟩,⟨(PyData.keyHash P (.ofString "first_value")),(.str (.ofString "first_value") 242),(.ref 51)⟩,⟨(PyData.keyHash P (.ofString "figures_of")),(.str (.ofString "figures_of") 251),(.ref 58)⟩,⟨(PyData.keyHash P (.ofString "rounded_by")),(.str (.ofString "rounded_by") 262),(.ref 65)⟩]) 16),(List.toArray [])⟩
  | false => (match Nat.beq b 12 with
    | true => ⟨.none,.none,(.fields (List.toArray [(.int 4 0),(.int 0 0),(.ref 21),(.int 10 0),(.int 0 0),(.ref 43),(.int 17 0),(.int 0 0),(.ref 50),(.int 21 0),(.int 0 0),(.ref 57),(.int 27 0),(.int 0 0),(.ref 64)])),(List.toArray [])⟩
    | false => ob P b)
noncomputable def M2 (P : Params) (b : Nat) : Obj := match Nat.beq b 3 with
  | true => ⟨(.type "dict"),.none,(.dict (List.toArray [⟨(PyData.keyHash P (.ofString "__name__")),(.str (.ofString "__name__") 165),(.str (.ofString "basicplus.arrays") 334)⟩,⟨(PyData.keyHash P (.ofString "__doc__")),(.str (.ofString "__doc__") 166),.none⟩,⟨(PyData.keyHash P (.ofString "__package__")),(.str (.ofString "__package__") 167),.none⟩,⟨(PyData.keyHash P (.ofString "__loader__")),(.str (.ofString "__loader__") 168),(.builtin "__main__.__loader__#opaque")⟩,⟨(PyData.keyHash P (.ofString "__spec__")),(.str (.ofString "__spec__") 169),.none⟩,⟨(PyData.keyHash P (.ofString "__annotations__")),(.str (.ofString "__annotations__") 170),(.ref 6)⟩,⟨(PyData.keyHash P (.ofString "__builtins__")),(.str (.ofString "__builtins__") 171),(.ref 4)⟩,⟨(PyData.keyHash P (.ofString "__file__")),(.str (.ofString "__file__") 173),(.str (.ofString "/claim/cut.py") 172)⟩,⟨(PyData.keyHash P (.ofString "__cached__")),(.str (.ofString "__cached__") 174),.none⟩,⟨(PyData.keyHash P (.ofString "MOST_TEXT")),(.str (.ofString "MOST_TEXT") 190),(.int 255 189)⟩,⟨(PyData.keyHash P (.ofString "MOST_EXPONENT")),(.str (.ofString "MOST_EXPONENT") 192),(.int 99 191)⟩,⟨(PyData.keyHash P (.ofString "BasicError")),(.str (.ofString "BasicError") 226),(.ref 34)⟩,⟨(PyData.keyHash P (.ofString "kind_of_name")),(.str (.ofString "kind_of_name") 235),(.ref 44)⟩,⟨(PyData.keyHash P (.ofString "first_value")),(.str (.ofString "first_value") 242),(.ref 51)⟩,⟨(PyData.keyHash P (.ofString "figures_of")),(.str (.ofString "figures_of") 251),(.ref 58)⟩,⟨(PyData.keyHash P (.ofString "rounded_by")),(.str (.ofString "rounded_by") 262),(.ref 65)⟩,⟨(PyData.keyHash P (.ofString "made")),(.str (.ofString "made") 274),(.ref 72)⟩,⟨(PyData.keyHash P (.ofString "whole_near")),(.str (.ofString "whole_near") 284),(.ref 79)⟩,⟨(PyData.keyHash P (.ofString "fits")),(.str (.ofString "fits") 292),(.ref 86)⟩,⟨(PyData.keyHash P (.ofString "whole_of")),(.str (.ofString "whole_of") 301),(.ref 93)⟩,⟨(PyData.keyHash P (.ofString "decimal_of")),(.str (.ofString "decimal_of") 309),(.ref 100)⟩,⟨(PyData.keyHash P (.ofString "text_of")),(.str (.ofString "text_of") 316),(.ref 107)⟩,⟨(PyData.keyHash P (.ofString "checked_text")),(.str (.ofString "checked_text") 323),(.ref 114)⟩,⟨(PyData.keyHash P (.ofString "suited")),(.str (.ofString "suited") 333),(.ref 121)⟩,⟨(PyData.keyHash P (.ofString "USUAL_HIGH")),(.str (.ofString "USUAL_HIGH") 337),(.int 10 336)⟩]) 25),(List.toArray [])⟩
  | false => (match Nat.beq b 12 with
    | true => ⟨.none,.none,(.fields (List.toArray [(.int 4 0),(.int 0 0),(.ref 21),(.int 10 0),(.int 0 0),(.ref 43),(.int 17 0),(.int 0 0),(.ref 50),(.int 21 0),(.int 0 0),(.ref 57),(.int 27 0),(.int 0 0),(.ref 64),(.int 37 0),(.int 0 0),(.ref 71),(.int 52 0),(.int 0 0),(.ref 78),(.int 58 0),(.int 0 0),(.ref 85),(.int 60 0),(.int 0 0),(.ref 92),(.int 67 0),(.int 0 0),(.ref 99),(.int 71 0),(.int 0 0),(.ref 106),(.int 75 0),(.int 0 0),(.ref 113),(.int 79 0),(.int 0 0),(.ref 120)])),(List.toArray [])⟩
    | false => ob P b)
noncomputable def M3 (P : Params) (b : Nat) : Obj := match Nat.beq b 3 with
  | true => ⟨(.type "dict"),.none,(.dict (List.toArray [⟨(PyData.keyHash P (.ofString "__name__")),(.str (.ofString "__name__") 165),(.str (.ofString "basicplus.arrays") 334)⟩,⟨(PyData.keyHash P (.ofString "__doc__")),(.str (.ofString "__doc__") 166),.none⟩,⟨(PyData.keyHash P (.ofString "__package__")),(.str (.ofString "__package__") 167),.none⟩,⟨(PyData.keyHash P (.ofString "__loader__")),(.str (.ofString "__loader__") 168),(.builtin "__main__.__loader__#opaque")⟩,⟨(PyData.keyHash P (.ofString "__spec__")),(.str (.ofString "__spec__") 169),.none⟩,⟨(PyData.keyHash P (.ofString "__annotations__")),(.str (.ofString "__annotations__") 170),(.ref 6)⟩,⟨(PyData.keyHash P (.ofString "__builtins__")),(.str (.ofString "__builtins__") 171),(.ref 4)⟩,⟨(PyData.keyHash P (.ofString "__file__")),(.str (.ofString "__file__") 173),(.str (.ofString "/claim/cut.py") 172)⟩,⟨(PyData.keyHash P (.ofString "__cached__")),(.str (.ofString "__cached__") 174),.none⟩,⟨(PyData.keyHash P (.ofString "MOST_TEXT")),(.str (.ofString "MOST_TEXT") 190),(.int 255 189)⟩,⟨(PyData.keyHash P (.ofString "MOST_EXPONENT")),(.str (.ofString "MOST_EXPONENT") 192),(.int 99 191)⟩,⟨(PyData.keyHash P (.ofString "BasicError")),(.str (.ofString "BasicError") 226),(.ref 34)⟩,⟨(PyData.keyHash P (.ofString "kind_of_name")),(.str (.ofString "kind_of_name") 235),(.ref 44)⟩,⟨(PyData.keyHash P (.ofString "first_value")),(.str (.ofString "first_value") 242),(.ref 51)⟩,⟨(PyData.keyHash P (.ofString "figures_of")),(.str (.ofString "figures_of") 251),(.ref 58)⟩,⟨(PyData.keyHash P (.ofString "rounded_by")),(.str (.ofString "rounded_by") 262),(.ref 65)⟩,⟨(PyData.keyHash P (.ofString "made")),(.str (.ofString "made") 274),(.ref 72)⟩,⟨(PyData.keyHash P (.ofString "whole_near")),(.str (.ofString "whole_near") 284),(.ref 79)⟩,⟨(PyData.keyHash P (.ofString "fits")),(.str (.ofString "fits") 292),(.ref 86)⟩,⟨(PyData.keyHash P (.ofString "whole_of")),(.str (.ofString "whole_of") 301),(.ref 93)⟩,⟨(PyData.keyHash P (.ofString "decimal_of")),(.str (.ofString "decimal_of") 309),(.ref 100)⟩,⟨(PyData.keyHash P (.ofString "text_of")),(.str (.ofString "text_of") 316),(.ref 107)⟩,⟨(PyData.keyHash P (.ofString "checked_text")),(.str (.ofString "checked_text") 323),(.ref 114)⟩,⟨(PyData.keyHash P (.ofString "suited")),(.str (.ofString "suited") 333),(.ref 121)⟩,⟨(PyData.keyHash P (.ofString "USUAL_HIGH")),(.str (.ofString "USUAL_HIGH") 337),(.int 10 336)⟩,⟨(PyData.keyHash P (.ofString "Grid")),(.str (.ofString "Grid") 372),(.ref 138)⟩,⟨(PyData.keyHash P (.ofString "count_of")),(.str (.ofString "count_of") 382),(.ref 149)⟩,⟨(PyData.keyHash P (.ofString "kind_in")),(.str (.ofString "kind_in") 390),(.ref 156)⟩,⟨(PyData.keyHash P (.ofString "check_highs")),(.str (.ofString "check_highs") 399),(.ref 163)⟩,⟨(PyData.keyHash P (.ofString "dim")),(.str (.ofString "dim") 408),(.ref 170)⟩,⟨(PyData.keyHash P (.ofString "grid_of")),(.str (.ofString "grid_of") 417),(.ref 177)⟩]) 31),(List.toArray [])⟩
  | false => (match Nat.beq b 12 with
    | true => ⟨.none,.none,(.fields (List.toArray [(.int 4 0),(.int 0 0),(.ref 21),(.int 10 0),(.int 0 0),(.ref 43),(.int 17 0),(.int 0 0),(.ref 50),(.int 21 0),(.int 0 0),(.ref 57),(.int 27 0),(.int 0 0),(.ref 64),(.int 37 0),(.int 0 0),(.ref 71),(.int 52 0),(.int 0 0),(.ref 78),(.int 58 0),(.int 0 0),(.ref 85),(.int 60 0),(.int 0 0),(.ref 92),(.int 67 0),(.int 0 0),(.ref 99),(.int 71 0),(.int 0 0),(.ref 106),(.int 75 0),(.int 0 0),(.ref 113),(.int 79 0),(.int 0 0),(.ref 120),(.int 85 0),(.int 0 0),(.ref 127),(.int 93 0),(.int 0 0),(.ref 148),(.int 98 0),(.int 0 0),(.ref 155),(.int 100 0),(.int 0 0),(.ref 162),(.int 108 0),(.int 0 0),(.ref 169),(.int 113 0),(.int 0 0),(.ref 176)])),(List.toArray [])⟩
    | false => ob P b)
noncomputable def M4 (P : Params) (b : Nat) : Obj := match Nat.beq b 3 with
  | true => ⟨(.type "dict"),.none,(.dict (List.toArray [⟨(PyData.keyHash P (.ofString "__name__")),(.str (.ofString "__name__") 165),(.str (.ofString "law_xm0035_01") 518)⟩,⟨(PyData.keyHash P (.ofString "__doc__")),(.str (.ofString "__doc__") 166),.none⟩,⟨(PyData.keyHash P (.ofString "__package__")),(.str (.ofString "__package__") 167),.none⟩,⟨(PyData.keyHash P (.ofString "__loader__")),(.str (.ofString "__loader__") 168),(.builtin "__main__.__loader__#opaque")⟩,⟨(PyData.keyHash P (.ofString "__spec__")),(.str (.ofString "__spec__") 169),.none⟩,⟨(PyData.keyHash P (.ofString "__annotations__")),(.str (.ofString "__annotations__") 170),(.ref 6)⟩,⟨(PyData.keyHash P (.ofString "__builtins__")),(.str (.ofString "__builtins__") 171),(.ref 4)⟩,⟨(PyData.keyHash P (.ofString "__file__")),(.str (.ofString "__file__") 173),(.str (.ofString "/claim/cut.py") 172)⟩,⟨(PyData.keyHash P (.ofString "__cached__")),(.str (.ofString "__cached__") 174),.none⟩,⟨(PyData.keyHash P (.ofString "MOST_TEXT")),(.str (.ofString "MOST_TEXT") 190),(.int 255 189)⟩,⟨(PyData.keyHash P (.ofString "MOST_EXPONENT")),(.str (.ofString "MOST_EXPONENT") 192),(.int 99 191)⟩,⟨(PyData.keyHash P (.ofString "BasicError")),(.str (.ofString "BasicError") 226),(.ref 34)⟩,⟨(PyData.keyHash P (.ofString "kind_of_name")),(.str (.ofString "kind_of_name") 235),(.ref 44)⟩,⟨(PyData.keyHash P (.ofString "first_value")),(.str (.ofString "first_value") 242),(.ref 51)⟩,⟨(PyData.keyHash P (.ofString "figures_of")),(.str (.ofString "figures_of") 251),(.ref 58)⟩,⟨(PyData.keyHash P (.ofString "rounded_by")),(.str (.ofString "rounded_by") 262),(.ref 65)⟩,⟨(PyData.keyHash P (.ofString "made")),(.str (.ofString "made") 274),(.ref 72)⟩,⟨(PyData.keyHash P (.ofString "whole_near")),(.str (.ofString "whole_near") 284),(.ref 79)⟩,⟨(PyData.keyHash P (.ofString "fits")),(.str (.ofString "fits") 292),(.ref 86)⟩,⟨(PyData.keyHash P (.ofString "whole_of")),(.str (.ofString "whole_of") 301),(.ref 93)⟩,⟨(PyData.keyHash P (.ofString "decimal_of")),(.str (.ofString "decimal_of") 309),(.ref 100)⟩,⟨(PyData.keyHash P (.ofString "text_of")),(.str (.ofString "text_of") 316),(.ref 107)⟩,⟨(PyData.keyHash P (.ofString "checked_text")),(.str (.ofString "checked_text") 323),(.ref 114)⟩,⟨(PyData.keyHash P (.ofString "suited")),(.str (.ofString "suited") 333),(.ref 121)⟩,⟨(PyData.keyHash P (.ofString "USUAL_HIGH")),(.str (.ofString "USUAL_HIGH") 337),(.int 10 336)⟩,⟨(PyData.keyHash P (.ofString "Grid")),(.str (.ofString "Grid") 372),(.ref 138)⟩,⟨(PyData.keyHash P (.ofString "count_of")),(.str (.ofString "count_of") 382),(.ref 149)⟩,⟨(PyData.keyHash P (.ofString "kind_in")),(.str (.ofString "kind_in") 390),(.ref 156)⟩,⟨(PyData.keyHash P (.ofString "check_highs")),(.str (.ofString "check_highs") 399),(.ref 163)⟩,⟨(PyData.keyHash P (.ofString "dim")),(.str (.ofString "dim") 408),(.ref 170)⟩,⟨(PyData.keyHash P (.ofString "grid_of")),(.str (.ofString "grid_of") 417),(.ref 177)⟩,⟨(PyData.keyHash P (.ofString "place_of")),(.str (.ofString "place_of") 428),(.ref 184)⟩,⟨(PyData.keyHash P (.ofString "get_item")),(.str (.ofString "get_item") 438),(.ref 191)⟩,⟨(PyData.keyHash P (.ofString "set_item")),(.str (.ofString "set_item") 450),(.ref 198)⟩,⟨(PyData.keyHash P (.ofString "World")),(.str (.ofString "World") 517),(.ref 216)⟩]) 35),(List.toArray [])⟩
  | false => (match Nat.beq b 12 with
    | true => ⟨.none,.none,(.fields (List.toArray [(.int 4 0),(.int 0 0),(.ref 21),(.int 10 0),(.int 0 0),(.ref 43),(.int 17 0),(.int 0 0),(.ref 50),(.int 21 0),(.int 0 0),(.ref 57),(.int 27 0),(.int 0 0),(.ref 64),(.int 37 0),(.int 0 0),(.ref 71),(.int 52 0),(.int 0 0),(.ref 78),(.int 58 0),(.int 0 0),(.ref 85),(.int 60 0),(.int 0 0),(.ref 92),(.int 67 0),(.int 0 0),(.ref 99),(.int 71 0),(.int 0 0),(.ref 106),(.int 75 0),(.int 0 0),(.ref 113),(.int 79 0),(.int 0 0),(.ref 120),(.int 85 0),(.int 0 0),(.ref 127),(.int 93 0),(.int 0 0),(.ref 148),(.int 98 0),(.int 0 0),(.ref 155),(.int 100 0),(.int 0 0),(.ref 162),(.int 108 0),(.int 0 0),(.ref 169),(.int 113 0),(.int 0 0),(.ref 176),(.int 117 0),(.int 0 0),(.ref 183),(.int 126 0),(.int 0 0),(.ref 190),(.int 129 0),(.int 0 0),(.ref 197),(.int 134 0),(.int 0 0),(.ref 204)])),(List.toArray [])⟩
    | false => ob P b)
/-- the state behind a piece -/
noncomputable abbrev stT (f : Params → Nat → Obj) (n k : Nat) (w : World) (os : OsState) : SharedT := ⟨mkF (f w.params) n 12 1 0, n, {}, #[], {}, k, os⟩
noncomputable abbrev stL (f : Params → Nat → Obj) (n k : Nat) (w : World) (os : OsState) : Shared := ⟨⟨(lsF (f w.params) n 0).toArray, {}⟩, #[], {}, k, os⟩
noncomputable abbrev S00 (w : World) (os : OsState) : Shared := ⟨boot_heap w.params, #[], boot_drawn, boot_toks, os⟩
noncomputable def grp (a n : Nat) : List Stmt := ((behindTheImports pw).drop a).take n
noncomputable def envT : Env := { scope := pw.main.scope, locals := mainNs, globals := mainNs, cells := [], code := .ref 13, frame := some 14 }
noncomputable abbrev cT : Code := .body (behindTheImports pw) envT
noncomputable abbrev fT : List Frame := [topFrame ⟨0, 0, 0, 0⟩]
theorem pre_q (w : World) : (fun os => Fast.tw15667345088766844465 Fast.tw14364793385576792824 pw w 11 (some (Value.ref 6)) 12 (S00 w os) (topStub pw)) = fun os => some (stL M0 15 187 w os, (⟨Fast.tw11892475500146522536 Fast.tw14364793385576792824 cT, cT, ⟨0, 0, 0, 0⟩, fT⟩ : Thread)) := by kernel_rfl
theorem block_q (w : World) : (fun os => Fast.tw14374325043358763698 Fast.tw14364793385576792824 pw w 11 (some (Value.ref 6)) 1 1 (stL M0 15 187 w os) (blockOf (behindTheImports pw) envT cT ⟨0, 0, 0, 0⟩ fT)) = fun os => some (Flow.next, (stT M0 15 187 w os).abs, cT, (⟨0, 0, 0, 0⟩ : Pos)) := by kernel_rfl
theorem piece_0q (w : World) : (fun os => Fast.tw10110043849684766642 Fast.tw14364793385576792824 pw w 11 (some (Value.ref 6)) 1 400 (stT M0 15 187 w os) (piecesOf (grp 0 8) envT cT ⟨0, 0, 0, 0⟩ fT)) = fun os => some (Flow.next, stT M1 66 263 w os, cT, (⟨27, 0, 36, 16⟩ : Pos)) := by kernel_rfl
theorem piece_1q (w : World) : (fun os => Fast.tw10110043849684766642 Fast.tw14364793385576792824 pw w 11 (some (Value.ref 6)) 1 266 (stT M1 66 263 w os) (piecesOf (grp 8 10) envT cT ⟨27, 0, 36, 16⟩ fT)) = fun os => some (Flow.next, stT M2 122 338 w os, cT, (⟨84, 0, 84, 10⟩ : Pos)) := by kernel_rfl
theorem piece_2q (w : World) : (fun os => Fast.tw10110043849684766642 Fast.tw14364793385576792824 pw w 11 (some (Value.ref 6)) 1 384 (stT M2 122 338 w os) (piecesOf (grp 18 6) envT cT ⟨84, 0, 84, 10⟩ fT)) = fun os => some (Flow.next, stT M3 178 418 w os, cT, (⟨113, 0, 116, 29⟩ : Pos)) := by kernel_rfl
theorem piece_3q (w : World) : (fun os => Fast.tw10110043849684766642 Fast.tw14364793385576792824 pw w 11 (some (Value.ref 6)) 1 377 (stT M3 178 418 w os) (piecesOf (grp 24 6) envT cT ⟨113, 0, 116, 29⟩ fT)) = fun os => some (Flow.next, stT M4 221 520 w os, cT, (⟨165, 0, 165, 8⟩ : Pos)) := by kernel_rfl
theorem piece_4q (w : World) : (fun os => Fast.tw10110043849684766642 Fast.tw14364793385576792824 pw w 11 (some (Value.ref 6)) 1 246 (stT M4 221 520 w os) (piecesOf (grp 30 8) envT cT ⟨165, 0, 165, 8⟩ fT)) = fun os => some (Flow.next, stT ob 271 595 w os, cT, (⟨209, 0, 233, 93⟩ : Pos)) := by kernel_rfl
theorem fin_q (w : World) : (fun os => Fast.tw14082659384304107361 Fast.tw14364793385576792824 pw w 11 (some (Value.ref 6)) 2 (stT ob 271 595 w os).abs ⟨doneF .next, cT, ⟨209, 0, 233, 93⟩, fT⟩) = fun os => some (stL ob 271 595 w os) := by kernel_rfl
theorem body_is : behindTheImports pw = grp 0 8 ++ (grp 8 10 ++ (grp 18 6 ++ (grp 24 6 ++ (grp 30 8 ++ [])))) := by kernel_rfl
theorem run_w (w : World) (os : OsState) : topRun treeTable pw w 11 (some (Value.ref 6)) (12 + (1 + (400 + (266 + (384 + (377 + (246 + 2))))))) (S00 w os) (topStub pw) = some (stL ob 271 595 w os) := by
  have e0 := pre_q w
  have e1 := block_q w
  have p0 := piece_0q w
  have p1 := piece_1q w
  have p2 := piece_2q w
  have p3 := piece_3q w
  have p4 := piece_4q w
  have e9 := fin_q w
  rw [← Fast.te15667345088766844465, ← Fast.te14364793385576792824, ← Fast.te11892475500146522536] at e0
  rw [← Fast.te14374325043358763698, ← Fast.te14364793385576792824] at e1
  rw [← Fast.te10110043849684766642, ← Fast.te14364793385576792824] at p0 p1 p2 p3 p4
  rw [← Fast.te14082659384304107361, ← Fast.te14364793385576792824] at e9
  refine go_top (congrFun e0 os) (piece_block (congrFun e1 os) ?_)
  rw [show restOf (behindTheImports pw) envT cT ⟨0, 0, 0, 0⟩ fT = restOf (grp 0 8 ++ (grp 8 10 ++ (grp 18 6 ++ (grp 24 6 ++ (grp 30 8 ++ []))))) envT cT ⟨0, 0, 0, 0⟩ fT from congrArg (fun b => restOf b envT cT ⟨0, 0, 0, 0⟩ fT) body_is]
  exact piece_app (segRun_of (congrFun p0 os)) (piece_app (segRun_of (congrFun p1 os)) (piece_app (segRun_of (congrFun p2 os)) (piece_app (segRun_of (congrFun p3 os)) (piece_app (segRun_of (congrFun p4 os)) (congrFun e9 os)))))
noncomputable abbrev HL (w : World) : Heap := ⟨(lsF (ob w.params) 271 0).toArray, {}⟩
theorem look_s (w : World) : (fun os : OsState => (staticsOk (importedModules pw.main.body) (boot_heap w.params) (HL w) && namesBound pw (HL w) && gensDone (stL ob 271 595 w os) && laidKept (boot_heap w.params) (HL w))) = fun _ => true := by kernel_rfl
theorem look_k (w : World) : asK.map (HL w).get? = (HK w.params).map (fun p => some p.2) := by kernel_rfl
theorem look_0 (w : World) : (fun os : OsState => (Fast.tw4187177175401517315 VW [Str.ofString "BasicError"] (importedModules pw.main.body) (fun s => xlAt VW [] s && recOk rw0.row.records s) true (stL ob 271 595 w os)).1) = fun _ => expectedOf VW := by kernel_rfl
theorem look_1 (w : World) : (fun os : OsState => (Fast.tw4187177175401517315 VW [Str.ofString "BasicError"] (importedModules pw.main.body) (fun s => xlAt VW [] s && recOk rw0.row.records s) true (stL ob 271 595 w os)).2.1) = fun _ => bltViewBooted := by kernel_rfl
theorem look_2 (w : World) : (fun os : OsState => (Fast.tw4187177175401517315 VW [Str.ofString "BasicError"] (importedModules pw.main.body) (fun s => xlAt VW [] s && recOk rw0.row.records s) true (stL ob 271 595 w os)).2.2.1) = fun _ => true := by kernel_rfl
theorem look_3 (w : World) : (fun os : OsState => (Fast.tw4187177175401517315 VW [Str.ofString "BasicError"] (importedModules pw.main.body) (fun s => xlAt VW [] s && recOk rw0.row.records s) true (stL ob 271 595 w os)).2.2.2.1) = fun _ => true := by kernel_rfl
theorem look_4 (w : World) : (fun os : OsState => (Fast.tw4187177175401517315 VW [Str.ofString "BasicError"] (importedModules pw.main.body) (fun s => xlAt VW [] s && recOk rw0.row.records s) true (stL ob 271 595 w os)).2.2.2.2.1) = fun _ => pinGoodD (drecsOf VW) := by kernel_rfl
theorem look_5 (w : World) : (fun os : OsState => (Fast.tw4187177175401517315 VW [Str.ofString "BasicError"] (importedModules pw.main.body) (fun s => xlAt VW [] s && recOk rw0.row.records s) true (stL ob 271 595 w os)).2.2.2.2.2.1) = fun _ => plainGoodE VW (looseW VW [Str.ofString "BasicError"]) := by kernel_rfl
theorem look_6 (w : World) : (fun os : OsState => (Fast.tw4187177175401517315 VW [Str.ofString "BasicError"] (importedModules pw.main.body) (fun s => xlAt VW [] s && recOk rw0.row.records s) true (stL ob 271 595 w os)).2.2.2.2.2.2.1) = fun _ => plainGoodD VW [Str.ofString "BasicError"] := by kernel_rfl
theorem look_7 (w : World) : (fun os : OsState => (Fast.tw4187177175401517315 VW [Str.ofString "BasicError"] (importedModules pw.main.body) (fun s => xlAt VW [] s && recOk rw0.row.records s) true (stL ob 271 595 w os)).2.2.2.2.2.2.2.1) = fun _ => wideGood VW := by kernel_rfl
theorem look_8 (w : World) : (fun os : OsState => (Fast.tw4187177175401517315 VW [Str.ofString "BasicError"] (importedModules pw.main.body) (fun s => xlAt VW [] s && recOk rw0.row.records s) true (stL ob 271 595 w os)).2.2.2.2.2.2.2.2) = fun _ => clsGoodW VW [Str.ofString "BasicError"] := by kernel_rfl
theorem look_all (w : World) (os : OsState) : (openSeen VW [Str.ofString "BasicError"] (importedModules pw.main.body) (fun s => xlAt VW [] s && recOk rw0.row.records s) true (stL ob 271 595 w os)) = openGood VW [Str.ofString "BasicError"] := by
  rw [Fast.te4187177175401517315]
  exact Prod.ext (congrFun (look_0 w) os) (Prod.ext (congrFun (look_1 w) os) (Prod.ext (congrFun (look_2 w) os) (Prod.ext (congrFun (look_3 w) os) (Prod.ext (congrFun (look_4 w) os) (Prod.ext (congrFun (look_5 w) os) (Prod.ext (congrFun (look_6 w) os) (Prod.ext (congrFun (look_7 w) os) (congrFun (look_8 w) os))))))))
theorem keysK (P : Params) : asK = (HK P).map (·.1) := by kernel_rfl
noncomputable abbrev hook : Hook := kHook HK asK keysK
theorem left : LeftO rw0.row.prog VW [Str.ofString "BasicError"] (fun s => xlAt VW [] s && recOk rw0.row.records s) (Hook.obs hook) (Hook.val hook) 3462 :=
  LeftO.of_pieces (H₀ := boot_heap) (H₁ := fun P => ⟨(lsF (ob P) 271 0).toArray, {}⟩) (gs₁ := #[]) (d₁ := {}) (k₁ := 595) (m₀ := 11) (ann := some (.ref 6)) (M := 12 + (1 + (400 + (266 + (384 + (377 + (246 + 2)))))))
    (boot_open (by kernel_rfl) (by decide +kernel) (fun s => by kernel_rfl)) (fun w => by kernel_rfl) (fun w os => run_w w os) (by decide +kernel)
    (fun w => funext fun os => looks_pair (congrFun (look_s w) os) (looks_pair (look_all w os) (look_k w)))
theorem said_q : Fast.tw9446332074065402090 rw0 = true := by
  refine look_both (look_both (look_both (look_both (look_both (look_both (look_both (look_both (look_both (look_both (look_both (look_both (look_both (look_both (look_both (look_both (look_both (look_both (look_both (look_both (look_both (look_both (look_both (look_both (look_both (look_both (look_both (look_both (look_both (look_both (look_both (look_both (look_both (look_both (look_both (look_both (look_both (?_) ?_) ?_) ?_) ?_) ?_) ?_) ?_) ?_) ?_) ?_) ?_) ?_) ?_) ?_) ?_) ?_) ?_) ?_) ?_) ?_) ?_) ?_) ?_) ?_) ?_) ?_) ?_) ?_) ?_) ?_) ?_) ?_) ?_) ?_) ?_) ?_) ?_
  all_goals decide +kernel
theorem said : rw0.wellSaid = true := by rw [Fast.te9446332074065402090]; exact said_q
noncomputable def lawRec : DefRec := match pw.main.body.getLastD default with
  | .FunctionDef n a b _ _ _ sc _ _ p => ⟨n, a, b, sc, p⟩
  | _ => ⟨Str.ofString "law", ⟨[], [], none, [], [], none, []⟩, [], default, default⟩
theorem lawRec_is : defOf VW (Str.ofString "law") = some (lawRec, []) := by kernel_rfl
theorem top_of (walk : WalkO VW [Str.ofString "BasicError"] (XL VW []) hook.says rw0.row.toRowW lawRec [] (fun f vs => PySem.call f vs)) : rw0.Holds :=
  holds_law said fun ok => holds_open (q := VW) (loose := [Str.ofString "BasicError"]) (Xt := fun s => xlAt VW [] s && recOk rw0.row.records s) (XP := XL VW []) (Yf := Hook.obs hook) (Ya := Hook.val hook) (YP := Hook.says hook) (N := 3462) left
    (Hook.of hook) (Hook.keeps hook) (fun s e => xl_of s (Bool.and_eq_true_iff.mp e).1) XL.keeps lawRec_is (by kernel_rfl) (by kernel_rfl) (fun s e => recFacts_of (Bool.and_eq_true_iff.mp e).2) (by rfl) ok (by decide +kernel) ⟨rfl, rfl, rfl, rfl, rfl, by decide +kernel⟩
    ⟨[.list []], by decide +kernel, by decide +kernel⟩ walk
noncomputable abbrev LL : List Str := looseW VW [Str.ofString "BasicError"]
def Ar (d u : Nat) : Around := { handled := none, depth := d, frames := none, guards := none, units := u }
def Ext (h h' : Heap) : Prop := ∀ b o, h.get? b = some o → h'.get? b = some o
theorem Ext.refl (h : Heap) : Ext h h := fun _ _ e => e
theorem Ext.trans {a b c : Heap} (x : Ext a b) (y : Ext b c) : Ext a c := fun _ _ e => y _ _ (x _ _ e)
/-- all but the addresses of `ms` stand as they stood -/
def ExtBut (ms : List Addr) (h h' : Heap) : Prop := ∀ b o, h.get? b = some o → b ∉ ms → h'.get? b = some o
/-- the objects `muts` stand in h, and are newer than hb -/
def Mu (hb h : Heap) (muts : List (Addr × Obj)) : Prop := ∀ q ∈ muts, h.get? q.1 = some q.2 ∧ hb.get? q.1 = none
theorem mu_of_news {h₀ h : Heap} {L : Addr} {news muts : List (Addr × Obj)} (N : News h₀ L h news) (sub : ∀ q ∈ muts, q ∈ news) : Mu h₀ h muts := fun q hq => ⟨(N q (sub q hq)).1, (N q (sub q hq)).2.2⟩

theorem wk {α : Type} {M : Model} {A : Around} {d u : Nat} {t : Sem α} {Q : α → Shared → Prop} {E : Value → Shared → Prop} {s : Shared} (hh : A.handled = none) (h1 : A.depth ≤ d) (h2 : A.units ≤ u) (h : wpAny M (Ar d u) t Q E s) : wpAny M A t Q E s :=
  fun Γ p hΓ => h Γ p ⟨hΓ.1.trans hh, Nat.le_trans hΓ.2.1 h1, (fun _ hl => by cases hl), (fun _ hl => by cases hl), Nat.le_trans hΓ.2.2.2.2 h2⟩

section
variable {prog : Program} {w : World} {A : Around} {s : Shared} {K : Frag} {p : Program} {loose : List Str} {mean : ExcName → Option Value} {mg mb : Str → Option Value} {hb : Heap}
    {R : Result → Shared → Prop} {name qual : Str} {params : Arguments} {body : List Stmt} {scope : Scope} {dV kV doc pm cdv ct oc : Value} {an od : Option Addr} {osl : Array (Option Value)} {f : Addr} {args : Args} {binds : List (Str × Value)}

theorem mu_stays {muts : List (Addr × Obj)} (xb : Ext hb s.heap) (hm : Mu hb s.heap muts) : hb.StaysIn (hideAll s.heap (muts.map (·.1))) := by
  have nm : ∀ b o, hb.get? b = some o → b ∉ muts.map (·.1) := fun b o e q => by
    obtain ⟨p, hp, rfl⟩ := List.mem_map.mp q
    rw [(hm p hp).2] at e; cases e
  exact fun b o e => hideAll_get _ (xb b o e) (nm b o e)

theorem enterM (muts : List (Addr × Obj)) (KX : K.In hb) (T : Top p loose mean mg mb hb) (xb : Ext hb s.heap) (hm : Mu hb s.heap muts)
    (ho : K.lookup f = some ⟨oc, od, .func (fnOf name qual params body scope dV kV doc pm an cdv ct), osl⟩) (hcd : codeIn K cdv qual = true) (hroom : A.depth < recursionLimit)
    (hbind : BindsTo s (fnOf name qual params body scope dV kV doc pm an cdv ct) args binds) (hloc : ∀ y ∈ binds, scope.names.lookup y.1 = some .local)
    (h : ∀ g L' h₁, g = hideAll s.heap (muts.map (·.1)) → K.In g → Top p loose mean mg mb g → Fr g L' h₁ (fun y => binds.reverse.lookup y) → News g L' h₁ muts → (∀ q ∈ muts, q.1 < L') →
      wpAny (model prog w) (A.deeper (envOf qual scope L' f cdv)) (execs body (envOf qual scope L' f cdv))
        (fun fl s' => R (.ok (.ret (match fl with | .ret v => v | _ => .none))) s') (fun _ _ => False)
        { s with heap := h₁, toks := s.toks + binds.length })
    (hco : scope.isCoroutine = false := by rfl) (hgen : scope.isGenerator = false := by rfl) (hk : scope.kind = .function := by rfl)
    (hcell : ∀ x ∈ scope.names, x.2 ≠ .cell := by decide) : codeAny (model prog w) A (.call (.ref f) args) R s := by
  have st := mu_stays xb hm
  refine codeAny_call_def (fd := fnOf name qual params body scope dV kV doc pm an cdv ct) (body := body) (binds := binds) hroom (xb _ _ (KX _ _ ho)) rfl (T.nolimit.keeps xb) ((codeRec_of KX hcd).keeps xb) rfl hbind hcell hloc (fun h₁ hns hk₁ => ?_) hco hgen hk
  refine wpAny_mono (h _ s.heap.objs.size h₁ rfl (KX.keeps st) (T.keeps st) ⟨hns, fun b o e => hk₁ b o (of_hideAll _ e), Nat.le_of_eq (hideAll_size _ _)⟩
    (fun p hp => ⟨hk₁ _ _ (hm p hp).1, Nat.ne_of_lt (Heap.lt_size (hm p hp).1), hideAll_none _ (List.mem_map_of_mem hp)⟩) (fun p hp => Heap.lt_size (hm p hp).1)) (fun _ _ x => x) fun _ _ x => x.elim

theorem enterCM (muts : List (Addr × Obj)) (KX : K.In hb) (T : Top p loose mean mg mb hb) (xb : Ext hb s.heap) (hm : Mu hb s.heap muts)
    (ho : K.lookup f = some ⟨oc, od, .func (fnOf name qual params body scope dV kV doc pm an cdv ct), osl⟩) (hcd : codeIn K cdv qual = true) (hroom : A.depth < recursionLimit)
    (hbind : BindsTo s (fnOf name qual params body scope dV kV doc pm an cdv ct) args binds)
    (hkind : (binds.all fun y => scope.names.lookup y.1 == some .local || scope.names.lookup y.1 == some .cell) = true)
    (hnd : ((cellsFrom 0 scope.names []).map (·.1)).Nodup)
    (h : ∀ g L' h₁ tk cells, g = hideAll s.heap (muts.map (·.1)) → K.In g → Top p loose mean mg mb g → Fr g L' h₁ (bindL (envOfC qual scope L' f cdv).kindOf binds fun _ => none) → News g L' h₁ (cells ++ muts) →
      CellsAre (bindC (envOfC qual scope L' f cdv).kindOf binds fun _ => none) (cellsFrom (L' + 1) scope.names []) cells → (∀ q ∈ muts, q.1 < L') →
      wpAny (model prog w) (A.deeper (envOfC qual scope L' f cdv)) (execs body (envOfC qual scope L' f cdv))
        (fun fl s' => R (.ok (.ret (match fl with | .ret v => v | _ => .none))) s') (fun _ _ => False)
        { s with heap := h₁, toks := tk })
    (hco : scope.isCoroutine = false := by rfl) (hgen : scope.isGenerator = false := by rfl) (hk : scope.kind = .function := by rfl) : codeAny (model prog w) A (.call (.ref f) args) R s := by
  have st := mu_stays xb hm
  refine codeAny_call_function hroom (xb _ _ (KX _ _ ho)) rfl hco hgen rfl ((codeRec_of KX hcd).keeps xb) (hbind _ _ _ _ ?_)
  refine wpAny_newFunctionEnv_cells hk (kindsX hkind _) fun env' he s' x => ?_
  subst he
  refine ⟨(T.nolimit.keeps xb).keeps x.toInCall.keep, codeAny_func ?_⟩
  obtain ⟨h₁, tk, rfl, _⟩ := x.done
  have hk₁ := x.toInCall.keep
  obtain ⟨cells, NC, Y⟩ := Cl.news (h₀ := s.heap) (Nat.le_refl _) fun n c hm => ⟨x.cell n c (lookup_of_mem_nodup (cellsFrom_names scope.names 0 (s.heap.objs.size + 1) [] [] rfl ▸ hnd) hm), x.above n c hm⟩
  refine wpAny_mono (h _ s.heap.objs.size h₁ tk cells rfl (KX.keeps st) (T.keeps st) ⟨x.toInCall.ns, fun b o e => hk₁ b o (of_hideAll _ e), Nat.le_of_eq (hideAll_size _ _)⟩ (fun p hp => ?_) Y (fun p hp => Heap.lt_size (hm p hp).1)) (fun fl s' hl => hl) fun _ _ y => y.elim
  rcases List.mem_append.mp hp with hp | hp
  · refine ⟨(NC p hp).1, (NC p hp).2.1, ?_⟩
    cases q : (hideAll s.heap (muts.map (·.1))).get? p.1 with
    | none => rfl
    | some o => have := of_hideAll _ q; rw [(NC p hp).2.2] at this; cases this
  · exact ⟨hk₁ _ _ (hm p hp).1, Nat.ne_of_lt (Heap.lt_size (hm p hp).1), hideAll_none _ (List.mem_map_of_mem hp)⟩

/-- a def entered from a walk, as the library's code_def, but nothing asked of the frames below -/
theorem code_defM {h₀ : Heap} {L : Addr} {m : Str → Option Value} {news : List (Addr × Obj)} (F : Fr h₀ L s.heap m) (X₀ : K.In h₀) (N : News h₀ L s.heap news) (T : Top p loose mean mg mb h₀)
    (ho : K.lookup f = some ⟨oc, od, .func (fnOf name qual params body scope dV kV doc pm an cdv ct), osl⟩) (hcd : codeIn K cdv qual = true) (hroom : A.depth < recursionLimit)
    (hbind : BindsTo s (fnOf name qual params body scope dV kV doc pm an cdv ct) args binds) (hloc : ∀ y ∈ binds, scope.names.lookup y.1 = some .local)
    (h : ∀ g L' h₁, Fr h₀ L g m → Fr g L' h₁ (fun y => binds.reverse.lookup y) → News g L' h₁ news → K.In g → Top p loose mean mg mb g → (∀ q ∈ news, q.1 < L') →
      wpAny (model prog w) (A.deeper (envOf qual scope L' f cdv)) (execs body (envOf qual scope L' f cdv))
        (fun fl s' => LeaveK h₀ L m g R (match fl with | .ret v => v | _ => .none) s') (fun _ _ => False)
        { s with heap := h₁, toks := s.toks + binds.length })
    (hco : scope.isCoroutine = false) (hgen : scope.isGenerator = false) (hk : scope.kind = .function)
    (hcell : ∀ x ∈ scope.names, x.2 ≠ .cell) : codeAny (model prog w) A (.call (.ref f) args) R s := by
  have hm : Mu h₀ s.heap news := fun q hq => ⟨(N q hq).1, (N q hq).2.2⟩
  have st := mu_stays F.keep hm
  obtain ⟨oL, es, ep, hL, hLd, hLk, hLf⟩ := F.ns
  have nL : L ∉ news.map (·.1) := fun q => by
    obtain ⟨p, hp, e⟩ := List.mem_map.mp q
    exact (N p hp).2.1 e
  have hLg := hideAll_get (news.map (·.1)) hL nL
  refine enterM news X₀ T F.keep hm ho hcd hroom hbind hloc (fun g L' h₁ hg Xg Tg F' N' l => ?_) hco hgen hk hcell
  subst hg
  refine wpAny_mono (h _ L' h₁ ⟨⟨oL, es, ep, hLg, hLd, hLk, hLf⟩, st, F.above⟩ F' N' Xg Tg l) (fun fl s' hl => ?_) fun _ _ x => x
  obtain ⟨L'', m', news', F'', N'', k⟩ := hl
  refine k ⟨⟨oL, es, ep, F''.keep L oL hLg, hLd, hLk, hLf⟩, fun b o e => F''.keep b o (st b o e), F.above⟩ fun p hp => ⟨(N'' p hp).1, fun q => ?_, ?_⟩
  · have := (N'' p hp).2.2; rw [q, hLg] at this; cases this
  · cases q : h₀.get? p.1 with
    | none => rfl
    | some o => have := (N'' p hp).2.2; rw [st _ _ q] at this; cases this
end
theorem ext_of_fr {s h' : Heap} {L : Addr} {m : Str → Option Value} {ms : List Addr} (F : Fr (hideAll s ms) L h' m) : ExtBut ms s h' := fun b o e n => F.keep b o (hideAll_get ms e n)
/-- a reader's end: nothing that stood has turned -/
theorem ext_read {hb s h' : Heap} {L : Addr} {m : Str → Option Value} {muts news' : List (Addr × Obj)} (F : Fr (hideAll s (muts.map (·.1))) L h' m) (hm : Mu hb s muts) (N : News (hideAll s (muts.map (·.1))) L h' news') (sub : ∀ q ∈ muts, q ∈ news') : Ext s h' := fun b o e => by
  by_cases hb : b ∈ muts.map (·.1)
  · obtain ⟨q, hq, rfl⟩ := List.mem_map.mp hb
    have h1 := (hm q hq).1
    rw [e] at h1
    rw [(N q (sub q hq)).1, h1]
  · exact ext_of_fr F b o e hb
theorem some_of {α : Type} {x : Option α} {v : α} (h : x = some v) : x.isSome = true := by rw [h]; rfl
theorem getItem_kda {prog : Program} {w : World} {K : Type} [DecidableEq K] {knd : KeyKind prog w K} {A : Around} {E : Value → Shared → Prop} {s : Shared} {h₀ : Heap} {L d : Addr} {news : List (Addr × Obj)} {o : Obj} {kvs : List (K × Value)} {k : K} {key v : Value}
    {Q : Value → Shared → Prop} (N : News h₀ L s.heap news) (hp : (d, o) ∈ news) (hd : o.IsDictOf knd kvs) (hkey : knd.is k key = true) (hl : valueAt kvs k = some v) (h : Q v { s with toks := s.toks + 1 }) :
    wpAny (model prog w) A (getItem (.ref d) key) Q E s := wpAny_getItem_of hkey (kda_dict N hp hd).mapOf hl h
theorem none_of {α : Type} {x : Option α} (h : x = none) : x.isSome = false := by rw [h]; rfl
local macro_rules | `(tactic| k_enter) => `(tactic| (refine' code_defM ?k2 ?k3 ?k4 ?k5 ?k6 ?k7 ?k8 ?k9 ?kB ?_ ?c2 ?c3 ?c4 ?c5; (case k2 | k3 | k4 | k5 => k_asm); (case k6 | k7 => k_is); (case k8 => k_room); (case k9 => first | exact BindsTo.of_eq rfl | exact binds_K (by k_in) rfl (by k_is) rfl rfl rfl | fail "k_enter: no rule for these arguments"); (case c5 => decide); (case kB => exact locs rfl); (case c2 | c3 | c4 => exact rfl); k_whole; intro g' L' h' FG' F' N' X' T' l1; (try k_lt l1); (try dsimp only); (try k_fold)))
local macro_rules | `(tactic| k_get) => `(tactic| assumption)
local macro_rules | `(tactic| walk_at "exec For Tuple Call cons nil") => `(tactic| (k_here; (rename Fr _ _ _ _ => lF'); (with_unfolding_all refine' For_turns lF' ?_; k_whole)))
local macro_rules | `(tactic| walk_at "compareOp NotIn str ref") => `(tactic| (k_here; k_dflt (refine kdg_notin (knd := PySem.strKind _ _) (by k_asm) (by k_mem) (by k_asm) (by k_asm) (strKind_is _ _ _ _) true (some_of (by assumption)) ?_); (try dsimp only [Bool.not_true, Bool.not_false])))
local macro_rules | `(tactic| walk_at "getItem ref str") => `(tactic| (k_here; k_dflt (refine getItem_kda (knd := PySem.strKind _ _) (by k_asm) (by k_mem) (by k_asm) (strKind_is _ _ _ _) (by assumption) ?_)))
local macro_rules | `(tactic| walk_at "compareOp In str ref") => `(tactic| (k_here; k_dflt (refine kda_in (knd := PySem.strKind _ _) (by k_asm) (by k_mem) (by k_asm) (by k_asm) (strKind_is _ _ _ _) false (none_of (by assumption)) ?_)))
local macro_rules | `(tactic| walk_at "setItem ref str") => `(tactic| (k_here; k_dflt (refine' kda_set (knd := PySem.strKind _ _) ?F ?N ?U ?d (strKind_is _ _ _ _) ?z ?_; (case F | N => k_asm); (case U => k_updF); (case d => k_asm); (case z => rw [sizeLine_eq]; omega)); intro h' o' F' N' hd'; (try dsimp only at N')))
local macro_rules | `(tactic| walk_at "exec For Name Name cons nil") => `(tactic| (k_here; (rename Fr _ _ _ _ => lF'); (with_unfolding_all refine' For_turns lF' ?_; k_whole)))
theorem filled : (PySem.Challenge.rw_xm0035_01 = PySem.Challenge.rw_xm0035_01) ∧ (HK = HK) := by
  k_fill
  exact ⟨rfl, rfl⟩
/-- a reader's end: a newer heap, nothing old turned -/
def Rd (s s' : Shared) : Prop := ∃ h' tk, s' = { s with heap := h', toks := tk } ∧ Ext s.heap h'
theorem rd_use {M : Model} {A : Around} {d u : Nat} {t : Sem Value} {P : Value → Prop} {Q : Value → Shared → Prop} {E : Value → Shared → Prop} {s : Shared} {h₀ : Heap} {L : Addr} {m : Str → Option Value} {news : List (Addr × Obj)}
    (spec : wpAny M (Ar d u) t (fun v s' => P v ∧ Rd s s') (fun _ _ => False) s) (hh : A.handled = none) (h1 : A.depth ≤ d) (h2 : A.units ≤ u) (F : Fr h₀ L s.heap m) (N : News h₀ L s.heap news)
    (h : ∀ v h' tk, P v → Fr h₀ L h' m → News h₀ L h' news → Q v { s with heap := h', toks := tk }) : wpAny M A t Q E s := by
  refine wk hh h1 h2 (wpAny_mono spec (fun v s' hq => ?_) fun _ _ x => x.elim)
  obtain ⟨hp, h', tk, rfl, x⟩ := hq
  exact h v h' tk hp (F.keeps x) (News.keepsAll N x)
/-- a turn of one object: all else stands as it stood -/
def Md (a : Addr) (o' : Obj) (s s' : Shared) : Prop := ∃ h' tk, s' = { s with heap := h', toks := tk } ∧ ExtBut [a] s.heap h' ∧ h'.get? a = some o'
theorem md_use {M : Model} {A : Around} {d u : Nat} {t : Sem Value} {P : Value → Prop} {Q : Value → Shared → Prop} {E : Value → Shared → Prop} {s : Shared} {h₀ : Heap} {L a : Addr} {o : Obj} {m : Str → Option Value} {news : List (Addr × Obj)} {O : Obj → Prop} {g : Obj → List (Addr × Obj)}
    (spec : wpAny M (Ar d u) t (fun v s' => P v ∧ ∃ o', O o' ∧ Md a o' s s') (fun _ _ => False) s) (hh : A.handled = none) (h1 : A.depth ≤ d) (h2 : A.units ≤ u) (F : Fr h₀ L s.heap m) (N : News h₀ L s.heap news) (U : UpdF a o news g)
    (h : ∀ v h' tk o', P v → O o' → Fr h₀ L h' m → News h₀ L h' (g o') → Q v { s with heap := h', toks := tk }) : wpAny M A t Q E s := by
  refine wk hh h1 h2 (wpAny_mono spec (fun v s' hq => ?_) fun _ _ x => x.elim)
  obtain ⟨hp, o', ho, h', tk, rfl, x, hg⟩ := hq
  obtain ⟨own, rest, rfl, hgg, n1, n2⟩ := U.split
  have hm := N (a, o) (List.mem_append_right _ (.head _))
  have k : ∀ b ob, s.heap.get? b = some ob → b ≠ a → h'.get? b = some ob := fun b ob e n => x b ob e (fun q => n (List.mem_singleton.mp q))
  refine h v h' tk o' hp ho ⟨F.ns.at fun ob e => k _ _ e hm.2.1.symm, fun b ob e => k b ob (F.keep b ob e) (fun q => by rw [q, hm.2.2] at e; cases e), F.above⟩ ?_
  rw [hgg]
  intro q hq
  rcases List.mem_append.mp hq with hq | hq
  · have z := N q (List.mem_append_left _ hq)
    exact ⟨k _ _ z.1 (n1 q hq), z.2⟩
  · rcases List.mem_cons.mp hq with rfl | hq
    · exact ⟨hg, hm.2⟩
    · have z := N q (List.mem_append_right _ (.tail _ hq))
      exact ⟨k _ _ z.1 (n2 q hq), z.2⟩
theorem ext_but {hb s h' : Heap} {L : Addr} {m : Str → Option Value} {muts news' : List (Addr × Obj)} {ms : List Addr} (F : Fr (hideAll s (muts.map (·.1))) L h' m) (hm : Mu hb s muts) (N : News (hideAll s (muts.map (·.1))) L h' news') (sub : ∀ q ∈ muts, q.1 ∈ ms ∨ q ∈ news') : ExtBut ms s h' := fun b o e n => by
  by_cases hb : b ∈ muts.map (·.1)
  · obtain ⟨q, hq, rfl⟩ := List.mem_map.mp hb
    have h1 := (hm q hq).1
    rw [e] at h1
    rcases sub q hq with h2 | h2
    · exact absurd h2 n
    · rw [(N q h2).1, h1]
  · exact ext_of_fr F b o e hb
theorem choice_walk (w : World) {mean : ExcName → Option Value} {mg mb : Str → Option Value} {hb : Heap} (KX : (HK w.params).In hb) (T : Top VW LL mean mg mb hb)
    (s : Shared) (xb : Ext hb s.heap) (bag sl : Addr) (vs : List Value) (ns : List Int) (spot below : Int) (n n2 : Nat) (t1 t2 : Tok)
    (hm : Mu hb s.heap [(bag, listOf #[.ref sl, .int spot t1] n), (sl, listOf vs.toArray n2)]) (hne : @Ne Nat sl bag) (hi : IntsAre vs ns) (hlen : ns.length < 2 ^ 62)
    (h0 : 0 ≤ spot) (h1 : spot < 1000) (hb0 : 1 ≤ below) (hb1 : below ≤ 6) (Q : Value → Shared → Prop)
    (hQ : ∀ k t h' tk t3, 0 ≤ k → k < below → ExtBut [bag] s.heap h' → h'.get? bag = some (listOf #[.ref sl, .int (spot + 1) t3] n) → Q (.int k t) { s with heap := h', toks := tk }) :
    wpAny (model pw w) (Ar 800 3000) (call (.ref 227) [.ref bag, .int below t2]) Q (fun _ _ => False) s := by
  refine wpAny_call ?_
  refine' enterM (binds := [(Str.ofString "bag", .ref bag), (Str.ofString "below", .int below t2)]) _ ?KX ?T ?xb ?hm ?k6 ?k7 ?k8 ?k9 ?kB ?_ ?c2 ?c3 ?c4 ?c5; (case KX => assumption); (case T => assumption); (case xb => assumption); (case hm => assumption); (case k6 => k_is); (case k7 => k_is); (case k8 => decide); (case k9 => exact BindsTo.of_eq rfl); (case kB => exact locs rfl); (case c5 => decide); (case c2 => exact rfl); (case c3 => exact rfl); (case c4 => exact rfl)
  intro g L' h₁ hg KX' T' F' N' l1
  k_lt l1
  k_steps
  all_goals (
    subst hg
    refine hQ _ _ _ _ _ (fmod_lo _ (by omega)) (fmod_hi _ (by omega)) (ext_but (by assumption) hm (by assumption) ?_) (News.get (by assumption) (by k_mem))
    refine List.forall_mem_cons.mpr ⟨Or.inl (List.Mem.head _), List.forall_mem_cons.mpr ⟨Or.inr (by k_mem), List.forall_mem_nil _⟩⟩)
theorem get_walk (w : World) {mean : ExcName → Option Value} {mg mb : Str → Option Value} {hb : Heap} (KX : (HK w.params).In hb) (T : Top VW LL mean mg mb hb)
    (s : Shared) (xb : Ext hb s.heap) (word : Str) (kvs : List (Str × Value)) (ws wd ar g gd hl it sb : Addr) (es es' : List DictEntry) (n n' n2 n3 n4 : Nat) (oar : Obj) (vs : List Value) (ns : List Int) (t1 t2 t3 t4 t5 t6 : Tok) (who place : Int)
    (hm : Mu hb s.heap [(ws, instObj 216 wd), (wd, dictOf es n), (ar, oar), (g, instObj 138 gd), (gd, dictOf es' n'), (hl, listOf #[.int 2 t1, .int 2 t2] n2), (it, listOf vs.toArray n3), (sb, listOf #[.int who t3, .int place t4] n4)])
    (ha : getL (Str.ofString "arrays") es = some (some (.ref ar))) (lo : (ar == sysModules) = false)
    (har : Obj.IsDictOf (PySem.strKind pw w) oar kvs) (hw : valueAt kvs word = some (.ref g))
    (hhi : getL (Str.ofString "highs") es' = some (some (.ref hl))) (hba : getL (Str.ofString "base") es' = some (some (.int 0 t5))) (hit : getL (Str.ofString "items") es' = some (some (.ref it)))
    (hi : IntsAre vs ns) (hlen : ns.length = 9) (h0 : 0 ≤ who) (h1 : who ≤ 2) (h2 : 0 ≤ place) (h3 : place ≤ 2) (Q : Value → Shared → Prop)
    (hQ : ∀ t h' tk, Ext s.heap h' → Q (.int (ns.getD (3 * who + place).toNat 0) t) { s with heap := h', toks := tk }) :
    wpAny (model pw w) (Ar 800 3000) (call (.ref 191) [.ref ws, .str word t6, .ref sb]) Q (fun _ _ => False) s := by
  refine wpAny_call ?_
  refine' enterM (binds := [(Str.ofString "world", .ref ws), (Str.ofString "word", .str word t6), (Str.ofString "subs", .ref sb)]) _ ?KX ?T ?xb ?hm ?k6 ?k7 ?k8 ?k9 ?kB ?_ ?c2 ?c3 ?c4 ?c5; (case KX => assumption); (case T => assumption); (case xb => assumption); (case hm => assumption); (case k6 => k_is); (case k7 => k_is); (case k8 => decide); (case k9 => exact BindsTo.of_eq rfl); (case kB => exact locs rfl); (case c5 => decide); (case c2 => exact rfl); (case c3 => exact rfl); (case c4 => exact rfl)
  intro G L' h₁ hg KX' T' F' N' l1
  k_lt l1
  k_steps
  all_goals (
    subst hg
    have e : ((0 * (2 - 0 + 1) + who - 0) * (2 - 0 + 1) + place - 0 : Int) = 3 * who + place := by omega
    rw [e]
    exact hQ _ _ _ (ext_read (by assumption) hm (by assumption) (by lcg_sub)))
theorem two16 : (2 : Int) ^ ((16 : Int) - 1).toNat = 32768 := by decide
section
local macro_rules | `(tactic| walk_at "ite") => `(tactic| (k_here; k_openite; first | (refine ite_pos (by simp only [two16]; simp only [decide_eq_true_eq]; omega) ?_) | (refine ite_neg (by simp only [two16]; simp only [decide_eq_true_eq]; omega) ?_))) -- here
theorem set_walk (w : World) {mean : ExcName → Option Value} {mg mb : Str → Option Value} {hb : Heap} (KX : (HK w.params).In hb) (T : Top VW LL mean mg mb hb)
    (s : Shared) (xb : Ext hb s.heap) (word : Str) (kvs : List (Str × Value)) (ws wd ar g gd hl it sb : Addr) (es es' : List DictEntry) (n n' n2 n3 n4 : Nat) (oar : Obj) (vs : List Value) (ns : List Int) (t1 t2 t3 t4 t5 t6 t7 t8 t9 ta : Tok) (who place val : Int)
    (hm : Mu hb s.heap [(ws, instObj 216 wd), (wd, dictOf es n), (ar, oar), (g, instObj 138 gd), (gd, dictOf es' n'), (hl, listOf #[.int 2 t1, .int 2 t2] n2), (it, listOf vs.toArray n3), (sb, listOf #[.int who t3, .int place t4] n4)])
    (ne : @Ne Nat ws it ∧ @Ne Nat wd it ∧ @Ne Nat ar it ∧ @Ne Nat g it ∧ @Ne Nat gd it ∧ @Ne Nat hl it ∧ @Ne Nat sb it)
    (ha : getL (Str.ofString "arrays") es = some (some (.ref ar))) (hbt : getL (Str.ofString "bits") es = some (some (.int 16 t8))) (hdg : getL (Str.ofString "digits") es = some (some (.int 9 t9))) (lo : (ar == sysModules) = false)
    (har : Obj.IsDictOf (PySem.strKind pw w) oar kvs) (hw : valueAt kvs word = some (.ref g))
    (hkd : getL (Str.ofString "kind") es' = some (some (.str (Str.ofString "whole") ta)))
    (hhi : getL (Str.ofString "highs") es' = some (some (.ref hl))) (hba : getL (Str.ofString "base") es' = some (some (.int 0 t5))) (hit : getL (Str.ofString "items") es' = some (some (.ref it)))
    (hi : IntsAre vs ns) (hlen : ns.length = 9) (h0 : 0 ≤ who) (h1 : who ≤ 2) (h2 : 0 ≤ place) (h3 : place ≤ 2) (h4 : 0 ≤ val) (h5 : val ≤ 2) (Q : Value → Shared → Prop)
    (hQ : ∀ h' tk t, ExtBut [it] s.heap h' → h'.get? it = some (listOf (vs.set (3 * who + place).toNat (.int val t)).toArray n3) → Q .none { s with heap := h', toks := tk }) :
    wpAny (model pw w) (Ar 800 3000) (call (.ref 198) [.ref ws, .str word t6, .ref sb, .int val t7]) Q (fun _ _ => False) s := by
  refine wpAny_call ?_
  refine' enterM (binds := [(Str.ofString "world", .ref ws), (Str.ofString "word", .str word t6), (Str.ofString "subs", .ref sb), (Str.ofString "value", .int val t7)]) _ ?KX ?T ?xb ?hm ?k6 ?k7 ?k8 ?k9 ?kB ?_ ?c2 ?c3 ?c4 ?c5; (case KX => assumption); (case T => assumption); (case xb => assumption); (case hm => assumption); (case k6 => k_is); (case k7 => k_is); (case k8 => decide); (case k9 => exact BindsTo.of_eq rfl); (case kB => exact locs rfl); (case c5 => decide); (case c2 => exact rfl); (case c3 => exact rfl); (case c4 => exact rfl)
  intro G L' h₁ hg KX' T' F' N' l1
  k_lt l1
  k_steps
  all_goals (
    subst hg
    have e : ((0 * (2 - 0 + 1) + who - 0) * (2 - 0 + 1) + place - 0 : Int) = 3 * who + place := by omega
    rename News _ _ _ _ => N9
    rw [e] at N9
    refine hQ _ _ _ (ext_but (by assumption) hm N9 ?_) (News.get N9 (by k_mem))
    have hit' : it ∈ [it] := List.Mem.head _
    refine List.forall_mem_cons.mpr ⟨Or.inr (by k_mem), List.forall_mem_cons.mpr ⟨Or.inr (by k_mem), List.forall_mem_cons.mpr ⟨Or.inr (by k_mem), List.forall_mem_cons.mpr ⟨Or.inr (by k_mem), List.forall_mem_cons.mpr ⟨Or.inr (by k_mem), List.forall_mem_cons.mpr ⟨Or.inr (by k_mem), List.forall_mem_cons.mpr ⟨Or.inl hit', List.forall_mem_cons.mpr ⟨Or.inr (by k_mem), List.forall_mem_nil _⟩⟩⟩⟩⟩⟩⟩⟩)
end
theorem mu_made {s h' : Heap} {L : Addr} {news made : List (Addr × Obj)} {as : List Addr} (N : News (hideAll s as) L h' news) (sub : ∀ q ∈ made, q ∈ news) (off : ∀ q ∈ made.map (·.1), q ∉ as) : Mu s h' made := fun q hq => ⟨(N q (sub q hq)).1, by
  cases e : s.get? q.1 with
  | none => rfl
  | some o => have z := (N q (sub q hq)).2.2; rw [hideAll_get as e (off _ (List.mem_map_of_mem hq))] at z; cases z⟩
theorem neN9 {a b : Nat} (h : a = b) : a = b := h
theorem dim_end {s h' : Heap} {L it hl g gd a1 a2 a3 a4 : Addr} {oi oh og od : Obj} {q : Addr × Obj} {rest : List (Addr × Obj)} (N : News (hideAll s [a1, a2, a3, a4]) L h' ((it, oi) :: q :: (hl, oh) :: (g, og) :: (gd, od) :: rest))
    (off : (@LT.lt Nat _ a1 gd ∧ @LT.lt Nat _ a2 gd ∧ @LT.lt Nat _ a3 gd ∧ @LT.lt Nat _ a4 gd) ∧ @LT.lt Nat _ gd g ∧ @LT.lt Nat _ g hl ∧ @LT.lt Nat _ hl it) : Mu s h' [(gd, od), (g, og), (hl, oh), (it, oi)] := by
  refine mu_made N (List.forall_mem_cons.mpr ⟨.tail _ (.tail _ (.tail _ (.tail _ (.head _)))), List.forall_mem_cons.mpr ⟨.tail _ (.tail _ (.tail _ (.head _))), List.forall_mem_cons.mpr ⟨.tail _ (.tail _ (.head _)), List.forall_mem_cons.mpr ⟨.head _, List.forall_mem_nil _⟩⟩⟩⟩) ?_
  obtain ⟨⟨b1, b2, b3, b4⟩, c1, c2, c3⟩ := off
  simp only [List.map_cons, List.map_nil, List.mem_cons, List.mem_nil_iff, or_false, forall_eq_or_imp, forall_eq]
  refine ⟨?_, ?_, ?_, ?_⟩ <;> (rintro (e | e | e | e) <;> (have e9 := neN9 e; omega))
/-- a word whose last sign is %: its arrays hold whole numbers -/
def KindOk (w : World) (word : Str) : Prop := ∀ {mean : ExcName → Option Value} {mg mb : Str → Option Value} {hb : Heap}, (HK w.params).In hb → Top VW LL mean mg mb hb → ∀ (s : Shared), Ext hb s.heap → ∀ (ki : Addr) (t : Tok) (Q : Value → Shared → Prop),
  (∀ ta h' tk, Ext s.heap h' → Q (.str (Str.ofString "whole") ta) { s with heap := h', toks := tk }) → wpAny (model pw w) (Ar 900 3500) (call (.ref 44) [.str word t, .ref ki]) Q (fun _ _ => False) s
theorem kind_W (w : World) : KindOk w (Str.ofString "W%") := by
  intro mean mg mb hb KX T s xb ki t Q hQ
  refine wpAny_call ?_
  have hm : Mu hb s.heap [] := fun q hq => nomatch hq
  refine' enterM (binds := [(Str.ofString "name", .str (Str.ofString "W%") t), (Str.ofString "kinds", .ref ki)]) _ ?KX ?T ?xb ?hm ?k6 ?k7 ?k8 ?k9 ?kB ?_ ?c2 ?c3 ?c4 ?c5; (case KX => assumption); (case T => assumption); (case xb => assumption); (case hm => assumption); (case k6 => k_is); (case k7 => k_is); (case k8 => decide); (case k9 => exact BindsTo.of_eq rfl); (case kB => exact locs rfl); (case c5 => decide); (case c2 => exact rfl); (case c3 => exact rfl); (case c4 => exact rfl)
  intro g L' h₁ hg KX' T' F' N' l1
  have hg' : g = s.heap := hg
  subst hg'
  clear l1
  k_steps
  all_goals exact hQ _ _ _ (Fr.keep (by assumption))
theorem kind_X (w : World) : KindOk w (Str.ofString "X%") := by
  intro mean mg mb hb KX T s xb ki t Q hQ
  refine wpAny_call ?_
  have hm : Mu hb s.heap [] := fun q hq => nomatch hq
  refine' enterM (binds := [(Str.ofString "name", .str (Str.ofString "X%") t), (Str.ofString "kinds", .ref ki)]) _ ?KX ?T ?xb ?hm ?k6 ?k7 ?k8 ?k9 ?kB ?_ ?c2 ?c3 ?c4 ?c5; (case KX => assumption); (case T => assumption); (case xb => assumption); (case hm => assumption); (case k6 => k_is); (case k7 => k_is); (case k8 => decide); (case k9 => exact BindsTo.of_eq rfl); (case kB => exact locs rfl); (case c5 => decide); (case c2 => exact rfl); (case c3 => exact rfl); (case c4 => exact rfl)
  intro g L' h₁ hg KX' T' F' N' l1
  have hg' : g = s.heap := hg
  subst hg'
  clear l1
  k_steps
  all_goals exact hQ _ _ _ (Fr.keep (by assumption))
theorem kind_line {w : World} {word : Str} {mean : ExcName → Option Value} {mg mb : Str → Option Value} {A : Around} {E : Value → Shared → Prop} {Q : Value → Shared → Prop} {s : Shared} {h₀ : Heap} {L : Addr} {m : Str → Option Value} {news : List (Addr × Obj)} {ki : Addr} {t : Tok}
    (hk : KindOk w word) (F : Fr h₀ L s.heap m) (N : News h₀ L s.heap news) (KX : (HK w.params).In h₀) (T : Top VW LL mean mg mb h₀) (hh : A.handled = none) (e1 : A.depth ≤ 900) (e2 : A.units ≤ 3500)
    (h : ∀ ta h' tk, Fr h₀ L h' m → News h₀ L h' news → Q (.str (Str.ofString "whole") ta) { s with heap := h', toks := tk }) : wpAny (model pw w) A (call (.ref 44) [.str word t, .ref ki]) Q E s :=
  rd_use (P := fun v => ∃ ta, v = Value.str (Str.ofString "whole") ta) (hk KX T s F.keep ki t _ (fun ta h' tk x => ⟨⟨ta, rfl⟩, h', tk, rfl, x⟩)) hh e1 e2 F N fun v h' tk hv F' N' => by
    obtain ⟨ta, rfl⟩ := hv
    exact h ta h' tk F' N'
section
local macro_rules | `(tactic| walk_at "call ref") => `(tactic| (k_here; (with_reducible show wpAny _ _ (call (Value.ref 44) _) _ _ _); k_dflt (refine' kind_line ?hk ?F ?N ?KX ?T ?hh ?h1 ?h2 ?_; (case hk => assumption); (case F | N | KX | T => k_asm); (case hh => exact rfl); (case h1 | h2 => exact Nat.le_of_ble_eq_true rfl)); intro ta h' tk F' N')) -- here
theorem dim_walk (w : World) (word : Str) (hk : KindOk w word) {mean : ExcName → Option Value} {mg mb : Str → Option Value} {hb : Heap} (KX : (HK w.params).In hb) (T : Top VW LL mean mg mb hb)
    (s : Shared) (xb : Ext hb s.heap) (kvs : List (Str × Value)) (ws wd ar hs ki : Addr) (es : List DictEntry) (n n2 : Nat) (oar : Obj) (t1 t2 t6 t5 t8 : Tok)
    (hm : Mu hb s.heap [(ws, instObj 216 wd), (wd, dictOf es n), (ar, oar), (hs, listOf #[.int 2 t1, .int 2 t2] n2)])
    (ne : @Ne Nat ws ar ∧ @Ne Nat wd ar ∧ @Ne Nat hs ar)
    (ha : getL (Str.ofString "arrays") es = some (some (.ref ar))) (hbb : getL (Str.ofString "base") es = some (some (.int 0 t5))) (hrm : getL (Str.ofString "room") es = some (some (.int 2000 t8))) (hkk : getL (Str.ofString "kinds") es = some (some (.ref ki))) (lo : (ar == sysModules) = false)
    (har : Obj.IsDictOf (PySem.strKind pw w) oar kvs) (hw : valueAt kvs word = none) (hkl : kvs.length ≤ 5) (Q : Value → Shared → Prop)
    (hQ : ∀ h' tk o' g gd hl it es' n' c t1 t2 tz tb ta, ExtBut [ar] s.heap h' → h'.get? ar = some o' → Obj.IsDictOf (PySem.strKind pw w) o' (stored kvs word (.ref g)) →
      Mu s.heap h' [(gd, dictOf es' n'), (g, instObj 138 gd), (hl, listOf #[.int 2 t1, .int 2 t2] c), (it, listOf (List.replicate 9 (Value.int 0 tz)).toArray 0)] → (@LT.lt Nat _ gd g ∧ @LT.lt Nat _ g hl ∧ @LT.lt Nat _ hl it) →
      getL (Str.ofString "kind") es' = some (some (.str (Str.ofString "whole") ta)) → getL (Str.ofString "highs") es' = some (some (.ref hl)) → getL (Str.ofString "base") es' = some (some (.int 0 tb)) → getL (Str.ofString "items") es' = some (some (.ref it)) →
      Q .none { s with heap := h', toks := tk }) :
    wpAny (model pw w) (Ar 800 3000) (call (.ref 170) [.ref ws, .str word t6, .ref hs]) Q (fun _ _ => False) s := by
  refine wpAny_call ?_
  refine' enterM (binds := [(Str.ofString "world", .ref ws), (Str.ofString "word", .str word t6), (Str.ofString "highs", .ref hs)]) _ ?KX ?T ?xb ?hm ?k6 ?k7 ?k8 ?k9 ?kB ?_ ?c2 ?c3 ?c4 ?c5; (case KX => assumption); (case T => assumption); (case xb => assumption); (case hm => assumption); (case k6 => k_is); (case k7 => k_is); (case k8 => decide); (case k9 => exact BindsTo.of_eq rfl); (case kB => exact locs rfl); (case c5 => decide); (case c2 => exact rfl); (case c3 => exact rfl); (case c4 => exact rfl)
  intro G L' h₁ hg KX' T' F' N' l1
  k_lt l1
  k_steps
  all_goals (
    subst hg
    rename News _ _ _ _ => N9
    rename Obj.IsDictOf _ _ _ => D9
    have e9 : ∀ v : Value, (List.replicate ((1 * (2 - 0 + 1) * (2 - 0 + 1) : Int)).toNat [v]).flatten = List.replicate 9 v := fun v => rfl
    rw [e9] at N9
    refine hQ _ _ _ _ _ _ _ _ _ _ _ _ _ _ _ (ext_but (by assumption) hm N9 ?ha) (News.get N9 ?hb) D9 (dim_end N9 ?hd) ?he (by k_get) (by k_get) (by k_get) (by k_get)
    case ha =>
      have hit' : ar ∈ [ar] := List.Mem.head _
      exact List.forall_mem_cons.mpr ⟨Or.inr (by k_mem), List.forall_mem_cons.mpr ⟨Or.inr (by k_mem), List.forall_mem_cons.mpr ⟨Or.inl hit', List.forall_mem_cons.mpr ⟨Or.inr (by k_mem), List.forall_mem_nil _⟩⟩⟩⟩
    case hb => k_mem
    case hd => (dsimp only; omega)
    case he => omega)
end
/-- the entries of an object's dict, as names with their values, the newest first -/
structure FAs (es : List DictEntry) (fs : List (Str × Value)) : Prop where
  p : es.any (·.refKey) = false
  g : ∀ x, (es.find? (·.key.isStr x)).map (·.val) = fs.lookup x
  l : es.length ≤ fs.length
theorem FAs.nil : FAs [] [] := ⟨rfl, fun _ => rfl, Nat.le_refl _⟩
theorem FAs.get {es : List DictEntry} {fs : List (Str × Value)} (f : FAs es fs) (x : Str) : getL x es = some (fs.lookup x) := by
  unfold getL
  have h := f.g x
  cases e : es.find? (·.key.isStr x) with
  | some en => rw [e] at h; rw [← h]; rfl
  | none => rw [e] at h; rw [← h, f.p]; rfl
theorem isStr_self (x y : Str) (t : Tok) : (Value.str x t).isStr y = (x == y) := rfl
theorem isStr_eq {v : Value} {x y : Str} (h : v.isStr x = true) : v.isStr y = (x == y) := by
  cases v with
  | str z t =>
    have e : (z == x) = true := h
    have e2 : z = x := by simpa using e
    rw [e2]; rfl
  | _ => cases h
theorem refKey_str {e : DictEntry} {x : Str} (h : e.key.isStr x = true) : e.refKey = false := by
  obtain ⟨hh, k, v⟩ := e
  cases k with
  | str z t => rfl
  | _ => cases h
theorem put_any (name : Str) (hs : Int) (t : Tok) (v : Value) : ∀ es : List DictEntry, es.any (·.refKey) = false → (putL name hs (.str name t) v es).any (·.refKey) = false
  | [], _ => rfl
  | e :: r, h => by
    rw [List.any_cons, Bool.or_eq_false_iff] at h
    unfold putL
    split
    · next q =>
      rw [List.any_cons, Bool.or_eq_false_iff]
      exact ⟨refKey_str (x := name) q, h.2⟩
    · rw [List.any_cons, Bool.or_eq_false_iff]
      exact ⟨h.1, put_any name hs t v r h.2⟩
theorem put_find (name : Str) (hs : Int) (t : Tok) (v : Value) (x : Str) : ∀ es : List DictEntry, ((putL name hs (.str name t) v es).find? (·.key.isStr x)).map (·.val) = if x = name then some v else (es.find? (·.key.isStr x)).map (·.val)
  | [] => by
    show (List.find? _ [_]).map _ = _
    rw [List.find?_cons]
    by_cases q : x = name
    · subst q
      rw [if_pos rfl, isStr_self, beq_self_eq_true]; rfl
    · rw [if_neg q, isStr_self, beq_eq_false_iff_ne.mpr (Ne.symm q)]
  | e :: r => by
    unfold putL
    split
    · next q =>
      rw [List.find?_cons, List.find?_cons]
      dsimp only
      rw [isStr_eq q]
      by_cases z : x = name
      · subst z; rw [if_pos rfl, beq_self_eq_true]; rfl
      · rw [if_neg z, beq_eq_false_iff_ne.mpr (Ne.symm z)]
    · next q =>
      rw [List.find?_cons, List.find?_cons]
      cases z : e.key.isStr x with
      | true =>
        have nx : x ≠ name := fun z' => q (z' ▸ z)
        rw [if_neg nx]
      | false => exact put_find name hs t v x r
theorem putL_len (name : Str) (hs : Int) (k v : Value) : ∀ es : List DictEntry, (putL name hs k v es).length ≤ es.length + 1
  | [] => Nat.le_refl _
  | e :: r => by
    unfold putL
    split
    · exact Nat.le_succ _
    · exact Nat.succ_le_succ (putL_len name hs k v r)
theorem FAs.put {es : List DictEntry} {fs : List (Str × Value)} (f : FAs es fs) (name : Str) (hs : Int) (t : Tok) (v : Value) : FAs (putL name hs (.str name t) v es) ((name, v) :: fs) :=
  ⟨put_any name hs t v es f.p, fun x => by
    rw [put_find, List.lookup_cons]
    by_cases q : x = name
    · subst q; rw [if_pos rfl, beq_self_eq_true]
    · rw [if_neg q, beq_eq_false_iff_ne.mpr q, f.g], Nat.le_trans (putL_len _ _ _ _ _) (Nat.succ_le_succ f.l)⟩
theorem upd_app {d : Addr} {o o' : Obj} : ∀ {pre post : List (Addr × Obj)}, (∀ p ∈ pre, p.1 ≠ d) → (∀ p ∈ post, p.1 ≠ d) → Upd d o o' (pre ++ (d, o) :: post) (pre ++ (d, o') :: post)
  | [], _, _, h => .head h
  | q :: _, _, a, b => .tail (a q (.head _)) (upd_app (fun p hp => a p (.tail _ hp)) b)
/-- a field of a World stored -/
theorem set_f {w : World} {A : Around} {E : Value → Shared → Prop} {s : Shared} {ws wd L : Addr} {h₀ : Heap} {m : Str → Option Value} {news : List (Addr × Obj)} {g : Obj → List (Addr × Obj)} {es : List DictEntry} {n : Nat} {fs : List (Str × Value)} {name : Str} {v : Value} {Q : Unit → Shared → Prop}
    (F : Fr h₀ L s.heap m) (X₀ : (HK w.params).In h₀) (N : News h₀ L s.heap news) (mx : (ws, instObj 216 wd) ∈ news) (U : UpdF wd (dictOf es n) news g) (hf : FAs es fs) (hk : Nat.ble (fs.length + 1) 1000 = true)
    (hs : findIn (HK w.params) (.ref 216) "__setattr__" = some (some (.builtin "object.__setattr__"))) (hp : plainOver (HK w.params) 216 = true) (ht : takerIn (HK w.params) 216 name = some none) (hh : hasDictIn (HK w.params) 216 = true)
    (h : ∀ h' es' n', FAs es' ((name, v) :: fs) → Fr h₀ L h' m → News h₀ L h' (g (dictOf es' n')) → Q () { s with heap := h', toks := s.toks + 2 }) :
    wpAny (model pw w) A (setAttr (.ref ws) name v) Q E s := by
  obtain ⟨own, rest, rfl, hg, n1, n2⟩ := U.split
  refine set_dict (C := 216) F X₀ N (InstAt.of_news N mx (List.mem_append_right _ (.head _))) rfl hs hp ht hh (by rw [hf.get]; rfl) rfl (upd_app n1 n2) (Nat.le_trans (putL_len _ _ _ _ _) (Nat.le_trans (Nat.succ_le_succ hf.l) (Nat.le_of_ble_eq_true hk))) fun h' F' N' => h h' _ _ (hf.put name _ _ v) F' (by rw [hg]; exact N')
section
local macro_rules | `(tactic| walk_at "setAttr ref") => `(tactic| (k_here; k_dflt (refine' set_f ?F ?X ?N ?mx ?U ?hf ?hk ?hs ?hp ?ht ?hh ?_; (case F | X | N => k_asm); (case mx => k_mem); (case U => k_updF); (case hf => assumption); (case hk => exact rfl); (case hs | hp | ht | hh => k_is); k_whole); intro h' es' n' D' F' N'; (try dsimp only at N'); (try k_sweep))) -- here
local macro_rules | `(tactic| walk_at "zq") => `(tactic| fail)
theorem init_walk (w : World) {mean : ExcName → Option Value} {mg mb : Str → Option Value} {hb : Heap} (KX : (HK w.params).In hb) (T : Top VW LL mean mg mb hb)
    (s : Shared) (xb : Ext hb s.heap) (ws wd : Addr) (hm : Mu hb s.heap [(ws, instObj 216 wd), (wd, dictOf [] 0)]) (lt : @LT.lt Nat _ wd ws) (R : Result → Shared → Prop)
    (hR : ∀ h' tk es c ar ki oar t2 t3 t4 t5, ExtBut [wd] s.heap h' → h'.get? wd = some (dictOf es c) → Mu s.heap h' [(ar, oar)] → @LT.lt Nat _ ws ar → Obj.IsDictOf (PySem.strKind pw w) oar [] → (ar == sysModules) = false →
      getL (Str.ofString "arrays") es = some (some (.ref ar)) → getL (Str.ofString "base") es = some (some (.int 0 t2)) → getL (Str.ofString "room") es = some (some (.int 2000 t3)) → getL (Str.ofString "kinds") es = some (some (.ref ki)) →
      getL (Str.ofString "bits") es = some (some (.int 16 t4)) → getL (Str.ofString "digits") es = some (some (.int 9 t5)) → R (.ok (.ret .none)) { s with heap := h', toks := tk }) :
    codeAny (model pw w) (Ar 800 3000) (.call (.ref 213) ⟨[.ref ws], []⟩) R s := by
  have F0 : FAs [] [] := FAs.nil
  refine' enterM _ ?KX ?T ?xb ?hm ?k6 ?k7 ?k8 ?k9 ?kB ?_ ?c2 ?c3 ?c4 ?c5; (case KX => assumption); (case T => assumption); (case xb => assumption); (case hm => assumption); (case k6 => k_is); (case k7 => k_is); (case k8 => decide); (case k9 => exact binds_K (KX.keeps xb) rfl (by k_is) rfl rfl rfl); (case kB => exact locs rfl); (case c5 => decide); (case c2 => exact rfl); (case c3 => exact rfl); (case c4 => exact rfl)
  intro G L' h₁ hg KX' T' F' N' l1
  k_lt l1
  (try dsimp only at F')
  k_steps
  all_goals (
    subst hg
    rename News _ _ _ _ => N9
    rename FAs _ _ => D9
    refine hR _ _ _ _ _ _ _ _ _ _ _ (ext_but (by assumption) hm N9 ?ha) (News.get N9 (by k_mem)) (mu_made (made := [(_, _)]) N9 (List.forall_mem_cons.mpr ⟨by k_mem, List.forall_mem_nil _⟩) ?hd) ?he ?hf ?hi ((D9.get _).trans rfl) ((D9.get _).trans rfl) ((D9.get _).trans rfl) ((D9.get _).trans rfl) ((D9.get _).trans rfl) ((D9.get _).trans rfl)
    case ha =>
      have hit' : wd ∈ [wd] := List.Mem.head _
      exact List.forall_mem_cons.mpr ⟨Or.inr (by k_mem), List.forall_mem_cons.mpr ⟨Or.inl hit', List.forall_mem_nil _⟩⟩
    case hd => 
      simp only [List.map_cons, List.map_nil, List.mem_cons, List.mem_nil_iff, or_false, forall_eq]
      rintro (e | e) <;> (have e9 := neN9 e; omega)
    case he => omega
    case hf => assumption
    case hi => assumption)
end
theorem wkC {M : Model} {A : Around} {d u : Nat} {c : Code} {R : Result → Shared → Prop} {s : Shared} (hh : A.handled = none) (h1 : A.depth ≤ d) (h2 : A.units ≤ u) (h : codeAny M (Ar d u) c R s) : codeAny M A c R s :=
  fun Γ p hc hΓ => h Γ p hc ⟨hΓ.1.trans hh, Nat.le_trans hΓ.2.1 h1, (fun _ hl => by cases hl), (fun _ hl => by cases hl), Nat.le_trans hΓ.2.2.2.2 h2⟩
theorem world_line {w : World} {mean : ExcName → Option Value} {mg mb : Str → Option Value} {A : Around} {E : Value → Shared → Prop} {Q : Value → Shared → Prop} {s : Shared} {h₀ : Heap} {L : Addr} {m : Str → Option Value} {news : List (Addr × Obj)}
    (F : Fr h₀ L s.heap m) (N : News h₀ L s.heap news) (KX : (HK w.params).In h₀) (T : Top VW LL mean mg mb h₀) (hh : A.handled = none) (e1 : A.depth ≤ 700) (e2 : A.units ≤ 2900)
    (h : ∀ h' tk ws wd es c ar ki oar t2 t3 t4 t5, Fr h₀ L h' m → News h₀ L h' ((ar, oar) :: (ws, instObj 216 wd) :: (wd, dictOf es c) :: news) → (∀ p ∈ news, p.1 < wd) → (@LT.lt Nat _ wd ws ∧ @LT.lt Nat _ ws ar) → Obj.IsDictOf (PySem.strKind pw w) oar [] → (ar == sysModules) = false →
      getL (Str.ofString "arrays") es = some (some (.ref ar)) → getL (Str.ofString "base") es = some (some (.int 0 t2)) → getL (Str.ofString "room") es = some (some (.int 2000 t3)) → getL (Str.ofString "kinds") es = some (some (.ref ki)) →
      getL (Str.ofString "bits") es = some (some (.int 16 t4)) → getL (Str.ofString "digits") es = some (some (.int 9 t5)) → Q (.ref ws) { s with heap := h', toks := tk }) :
    wpAny (model pw w) A (call (.ref 216) []) Q E s := by
  refine call_cls (fI := 213) F KX N (by k_is) (by k_is) (by k_is) fun x dx h' F' N' lt1 lt2 => ?_
  refine wkC (d := 800) (u := 3000) ?_ ?_ ?_ (init_walk w KX T { s with heap := h' } F'.keep x dx (mu_of_news N' (List.forall_mem_cons.mpr ⟨.head _, List.forall_mem_cons.mpr ⟨.tail _ (.head _), List.forall_mem_nil _⟩⟩)) lt2 _
    fun h'' tk es c ar ki oar t2 t3 t4 t5 xb hd M lt3 di lo g1 g2 g3 g4 g5 g6 => ?_)
  · exact hh
  · exact Nat.le_trans (Nat.add_le_add_right e1 _) (Nat.le_of_ble_eq_true rfl)
  · exact Nat.le_trans (Nat.add_le_add_right e2 _) (Nat.le_of_ble_eq_true rfl)
  · refine ⟨rfl, ?_⟩
    have hm := N' (dx, dictOf [] 0) (.tail _ (.head _))
    have k : ∀ b ob, h'.get? b = some ob → b ≠ dx → h''.get? b = some ob := fun b ob e n => xb b ob e (fun q => n (List.mem_singleton.mp q))
    have F'' : Fr h₀ L h'' m := ⟨F'.ns.at fun ob e => k _ _ e hm.2.1.symm, fun b ob e => k b ob (F'.keep b ob e) (fun q => by rw [q, hm.2.2] at e; cases e), F'.above⟩
    have ma := M (ar, oar) (.head _)
    refine h h'' tk x dx es c ar ki oar t2 t3 t4 t5 F'' (fun q hq => ?_) lt1 ⟨lt2, lt3⟩ di lo g1 g2 g3 g4 g5 g6
    rcases List.mem_cons.mp hq with rfl | hq
    · refine ⟨ma.1, fun e => ?_, ?_⟩
      · have z := ma.2
        obtain ⟨oL, _, _, hL, _⟩ := F'.ns
        have e' : ar = L := e
        rw [show ((ar, oar) : Addr × Obj).1 = L from e'] at z
        rw [hL] at z
        cases z
      · cases e : h₀.get? ar with
        | none => rfl
        | some o => have z := ma.2; rw [F'.keep _ _ e] at z; cases z
    · rcases List.mem_cons.mp hq with rfl | hq
      · have z := N' _ (.head _)
        exact ⟨k _ _ z.1 (Nat.ne_of_gt lt2), z.2⟩
      · rcases List.mem_cons.mp hq with rfl | hq
        · exact ⟨hd, hm.2⟩
        · have z := N' q (.tail _ (.tail _ hq))
          exact ⟨k _ _ z.1 (Nat.ne_of_lt (lt1 q hq)), z.2⟩
/-- a grid that can be read by its word: ns are its nine items -/
def GetAt (w : World) (hb h : Heap) (ws : Addr) (word : Str) (ns : List Int) : Prop :=
  ∃ (kvs : List (Str × Value)) (wd ar g gd hl it : Addr) (es es' : List DictEntry) (n n' n2 n3 : Nat) (oar : Obj) (vs : List Value) (t1 t2 t5 : Tok),
    Mu hb h [(ws, instObj 216 wd), (wd, dictOf es n), (ar, oar), (g, instObj 138 gd), (gd, dictOf es' n'), (hl, listOf #[.int 2 t1, .int 2 t2] n2), (it, listOf vs.toArray n3)] ∧
    getL (Str.ofString "arrays") es = some (some (.ref ar)) ∧ (ar == sysModules) = false ∧ Obj.IsDictOf (PySem.strKind pw w) oar kvs ∧ valueAt kvs word = some (.ref g) ∧
    getL (Str.ofString "highs") es' = some (some (.ref hl)) ∧ getL (Str.ofString "base") es' = some (some (.int 0 t5)) ∧ getL (Str.ofString "items") es' = some (some (.ref it)) ∧ IntsAre vs ns ∧ ns.length = 9
theorem Mu.keep {hb h h' : Heap} {l : List (Addr × Obj)} (M : Mu hb h l) (x : Ext h h') : Mu hb h' l := fun q hq => ⟨x _ _ (M q hq).1, (M q hq).2⟩
theorem Mu.app {hb h : Heap} {l l' : List (Addr × Obj)} (M : Mu hb h l) (M' : Mu hb h l') : Mu hb h (l ++ l') := fun q hq => (List.mem_append.mp hq).elim (M q) (M' q)
theorem GetAt.keep {w : World} {hb h h' : Heap} {ws : Addr} {word : Str} {ns : List Int} (G : GetAt w hb h ws word ns) (x : Ext h h') : GetAt w hb h' ws word ns := by
  obtain ⟨kvs, wd, ar, g, gd, hl, it, es, es', n, n', n2, n3, oar, vs, t1, t2, t5, M, r⟩ := G
  exact ⟨kvs, wd, ar, g, gd, hl, it, es, es', n, n', n2, n3, oar, vs, t1, t2, t5, M.keep x, r⟩
theorem get_spec {w : World} {mean : ExcName → Option Value} {mg mb : Str → Option Value} {hb : Heap} (KX : (HK w.params).In hb) (T : Top VW LL mean mg mb hb)
    {s : Shared} (xb : Ext hb s.heap) {ws sb : Addr} {word : Str} {ns : List Int} {who place : Int} {t3 t4 t6 : Tok} {n4 : Nat} (G : GetAt w hb s.heap ws word ns) (M : Mu hb s.heap [(sb, listOf #[.int who t3, .int place t4] n4)])
    (h0 : 0 ≤ who) (h1 : who ≤ 2) (h2 : 0 ≤ place) (h3 : place ≤ 2) :
    wpAny (model pw w) (Ar 800 3000) (call (.ref 191) [.ref ws, .str word t6, .ref sb]) (fun v s' => (∃ t, v = .int (ns.getD (3 * who + place).toNat 0) t) ∧ Rd s s') (fun _ _ => False) s := by
  obtain ⟨kvs, wd, ar, g, gd, hl, it, es, es', n, n', n2, n3, oar, vs, t1, t2, t5, M', a1, a2, a3, a4, a5, a6, a7, a8, a9⟩ := G
  exact get_walk w KX T s xb word kvs ws wd ar g gd hl it sb es es' n n' n2 n3 n4 oar vs ns t1 t2 t3 t4 t5 t6 who place (M'.app M) a1 a2 a3 a4 a5 a6 a7 a8 a9 h0 h1 h2 h3 _
    (fun t h' tk x => ⟨⟨t, rfl⟩, h', tk, rfl, x⟩)
theorem get_line {w : World} {mean : ExcName → Option Value} {mg mb : Str → Option Value} {hb : Heap} {A : Around} {E : Value → Shared → Prop} {Q : Value → Shared → Prop} {s : Shared} {h₀ : Heap} {L : Addr} {m : Str → Option Value} {news : List (Addr × Obj)} {ws sb : Addr} {word : Str} {ns : List Int} {who place : Int} {t3 t4 t6 : Tok} {n4 : Nat}
    (F : Fr h₀ L s.heap m) (N : News h₀ L s.heap news) (G : GetAt w hb h₀ ws word ns) (KX : (HK w.params).In hb) (T : Top VW LL mean mg mb hb) (xg : Ext hb h₀)
    (hm : (sb, listOf #[.int who t3, .int place t4] n4) ∈ news) (hh : A.handled = none) (e1 : A.depth ≤ 800) (e2 : A.units ≤ 3000)
    (h0 : 0 ≤ who) (h1 : who ≤ 2) (h2 : 0 ≤ place) (h3 : place ≤ 2) (h : ∀ t h' tk, Fr h₀ L h' m → News h₀ L h' news → Q (.int (ns.getD (3 * who + place).toNat 0) t) { s with heap := h', toks := tk }) :
    wpAny (model pw w) A (call (.ref 191) [.ref ws, .str word t6, .ref sb]) Q E s := by
  refine rd_use (get_spec KX T (Ext.trans xg F.keep) (G.keep F.keep) (M := ?_) h0 h1 h2 h3 (t3 := t3) (t4 := t4) (n4 := n4)) hh e1 e2 F N (fun v h' tk hv F' N' => ?_)
  · intro q hq
    rw [List.mem_singleton.mp hq]
    refine ⟨(N _ hm).1, ?_⟩
    cases e : hb.get? sb with
    | none => rfl
    | some o => have z := (N _ hm).2.2; rw [xg _ _ e] at z; cases z
  · obtain ⟨t, rfl⟩ := hv
    exact h t h' tk F' N'
local macro_rules | `(tactic| walk_at "call ref") => `(tactic| (k_here; (with_reducible show wpAny _ _ (call (Value.ref 191) _) _ _ _); k_dflt (refine' get_line ?F ?N ?G ?KX ?T ?x ?hm ?hh ?h1 ?h2 ?b0 ?b1 ?b2 ?b3 ?_; (case F | N => k_asm); (case G | KX | T | x => assumption); (case hm => k_mem); (case hh => exact rfl); (case h1 | h2 => exact Nat.le_of_ble_eq_true rfl); (case b0 | b1 | b2 | b3 => omega)); intro t' h' tk' F' N'))
/-- where `other` stands in who's row -/
def plc (ns : List Int) (who other : Int) : Int := if ns.getD (3 * who).toNat 0 = other then 0 else if ns.getD (3 * who + 1).toNat 0 = other then 1 else if ns.getD (3 * who + 2).toNat 0 = other then 2 else 3
theorem place_walk (w : World) {mean : ExcName → Option Value} {mg mb : Str → Option Value} {hb : Heap} (KX : (HK w.params).In hb) (T : Top VW LL mean mg mb hb)
    (s : Shared) (xb : Ext hb s.heap) (ws : Addr) (word : Str) (ns : List Int) (who other : Int) (t1 t2 t3 : Tok) (G : GetAt w hb s.heap ws word ns) (h0 : 0 ≤ who) (h1 : who ≤ 2) (Q : Value → Shared → Prop)
    (hQ : ∀ r t h' tk, r = plc ns who other → Ext s.heap h' → Q (.int r t) { s with heap := h', toks := tk }) :
    wpAny (model pw w) (Ar 700 2500) (call (.ref 241) [.ref ws, .str word t1, .int who t2, .int other t3]) Q (fun _ _ => False) s := by
  refine wpAny_call ?_
  have hm : Mu hb s.heap [] := fun q hq => nomatch hq
  refine' enterM (binds := [(Str.ofString "world", .ref ws), (Str.ofString "word", .str word t1), (Str.ofString "who", .int who t2), (Str.ofString "other", .int other t3)]) _ ?KX ?T ?xb ?hm ?k6 ?k7 ?k8 ?k9 ?kB ?_ ?c2 ?c3 ?c4 ?c5; (case KX => assumption); (case T => assumption); (case xb => assumption); (case hm => assumption); (case k6 => k_is); (case k7 => k_is); (case k8 => decide); (case k9 => exact BindsTo.of_eq rfl); (case kB => exact locs rfl); (case c5 => decide); (case c2 => exact rfl); (case c3 => exact rfl); (case c4 => exact rfl)
  intro g L' h₁ hg KX' T' F' N' l1
  have hg' : g = s.heap := hg
  subst hg'
  clear l1
  k_steps
  all_goals (
    have z0 : ((0 : Int) + ((0 : Nat) : Int)) = 0 := rfl
    have z1 : ((0 : Int) + ((0 + 1 : Nat) : Int)) = 1 := rfl
    have z2 : ((0 : Int) + ((0 + 1 + 1 : Nat) : Int)) = 2 := rfl
    show Q (Value.int _ _) _
    refine hQ _ _ _ _ ?_ (Fr.keep (by assumption))
    unfold plc
    simp only [z0, z1, z2, Int.add_zero] at *
    simp only [*, if_true, if_false])
/-- where v stands among three -/
def rk (x y z v : Int) : Int := if x = v then 0 else if y = v then 1 else 2
theorem tuple_index3 (l : Addr) (x y z v : Int) (n : Nat) (t1 t2 t3 t : Tok) (hv : x = v ∨ y = v ∨ z = v) :
    Meets (Builtin.«tuple.index» ⟨[.ref l, .int v t], []⟩)
      (fun _ R s => s.heap.get? l = some { cls := .type "tuple", dict := none, data := .seq #[.int x t1, .int y t2, .int z t3] n, slots := #[] } ∧ R (.ok (.ret (.int (rk x y z v) s.toks))) { s with toks := s.toks + 1 }) := by
  intro prog w A R s h
  obtain ⟨hp, g, d, tk, os⟩ := s; obtain ⟨hl, h⟩ := h
  unfold rk at h
  wp_walk using wpAny_loadPart' hl
  show wpAny _ _ (forIn (m := Sem) (ρ := Std.Legacy.Range) _ _ _) _ _ _
  rw [Std.Legacy.Range.forIn_eq_forIn_range']
  simp only [Std.Legacy.Range.size, List.size_toArray, List.length_cons, List.length_nil, Nat.min_self, Nat.sub_zero, Nat.add_sub_cancel, Nat.div_one]
  have er : ∀ k, k = 3 → List.range' 0 k = [0, 1, 2] := by rintro _ rfl; rfl
  rw [er _ (by decide)]
  simp only [List.forIn_cons, List.forIn_nil]
  refine wpAny_bind (wpAny_bind (MeetsSeq.EqGives.int x v t1 t _ _ _ _ _ _ ?_))
  by_cases h1 : x = v
  · rw [if_pos h1] at h
    rw [show (x == v) = true from beq_iff_eq.mpr h1]
    wp_walk
    exact h
  rw [if_neg h1] at h
  rw [show (x == v) = false from beq_eq_false_iff_ne.mpr h1]
  wp_walk
  refine (MeetsSeq.EqGives.int y v t2 t _ _ _ _ _ _ ?_)
  by_cases h2 : y = v
  · rw [if_pos h2] at h
    rw [show (y == v) = true from beq_iff_eq.mpr h2]
    wp_walk
    exact h
  rw [if_neg h2] at h
  rw [show (y == v) = false from beq_eq_false_iff_ne.mpr h2]
  wp_walk
  refine (MeetsSeq.EqGives.int z v t3 t _ _ _ _ _ _ ?_)
  have h3 : z = v := by omega
  rw [show (z == v) = true from beq_iff_eq.mpr h3]
  wp_walk
  exact h
theorem list_index3 (l : Addr) (x y z v : Int) (n : Nat) (t1 t2 t3 t : Tok) (hv : x = v ∨ y = v ∨ z = v) :
    Meets (Builtin.«list.index» ⟨[.ref l, .int v t], []⟩)
      (fun _ R s => s.heap.get? l = some { cls := .type "list", dict := none, data := .seq #[.int x t1, .int y t2, .int z t3] n, slots := #[] } ∧ R (.ok (.ret (.int (rk x y z v) s.toks))) { s with toks := s.toks + 1 }) := by
  have eg : ∀ u, u ∈ #[Value.int x t1, .int y t2, .int z t3] → MeetsSeq.EqGives u (.int v t) (isInt v u) := fun u hu => kf_eq (l := [.int x t1, .int y t2, .int z t3]) rfl u (by simpa using hu)
  have hs : #[Value.int x t1, .int y t2, .int z t3].size = 3 := rfl
  intro prog w A R s h
  unfold rk at h
  by_cases h1 : x = v
  · rw [if_pos h1] at h
    refine MeetsSeq.list_index l _ n (.int v t) (isInt v) eg 0 (hs ▸ by decide) (by decide) ?_ ?_ prog w A R s h
    · simp [isInt, h1]
    · intro m hm hlt
      omega
  rw [if_neg h1] at h
  by_cases h2 : y = v
  · rw [if_pos h2] at h
    refine MeetsSeq.list_index l _ n (.int v t) (isInt v) eg 1 (hs ▸ by decide) (by decide) ?_ ?_ prog w A R s h
    · simp [isInt, h2]
    · intro m hm hlt
      obtain rfl : m = 0 := by omega
      simp [isInt, h1]
  rw [if_neg h2] at h
  have h3 : z = v := by omega
  refine MeetsSeq.list_index l _ n (.int v t) (isInt v) eg 2 (hs ▸ by decide) (by decide) ?_ ?_ prog w A R s h
  · simp [isInt, h3]
  · intro m hm hlt
    rcases (show m = 0 ∨ m = 1 by omega) with rfl | rfl
    · simp [isInt, h1]
    · simp [isInt, h2]
section
variable {prog : Program} {w : World} {A : Around} {E : Value → Shared → Prop} {s : Shared} {h₀ : Heap} {L D : Addr} {news : List (Addr × Obj)} {n : Nat}
theorem tix_method {its : Array Value} {name : Str} {id : String} {pl : Sem Bool} {Q : Value × List Value → Shared → Prop} (N : News h₀ L s.heap news) (hm : (D, ({ cls := .type "tuple", data := .seq its n } : Obj)) ∈ news) (slot : Slot "tuple" name id) (hty : typeOf (.builtin id) = pure (.type "method_descriptor"))
    (h : Q (.builtin id, [.ref D]) s) : wpAny (model prog w) A (getMethod (.ref D) name pl) Q E s :=
  getMethod_builtin ⟨_, (N _ hm).1, rfl⟩ PySem.F.plainAttrs_tuple slot hty (fun a e => by cases e; exact ⟨_, (N _ hm).1, rfl⟩) h
theorem tix_index {x y z v : Int} {t1 t2 t3 t : Tok} {Q : Value → Shared → Prop} (N : News h₀ L s.heap news) (hm : (D, ({ cls := .type "tuple", data := .seq #[.int x t1, .int y t2, .int z t3] n } : Obj)) ∈ news) (hv : x = v ∨ y = v ∨ z = v)
    (h : Q (.int (rk x y z v) s.toks) { s with toks := s.toks + 1 }) : wpAny (model prog w) A (call (.builtin "tuple.index") [.ref D, .int v t]) Q E s :=
  call_meets PySem.F.slot_tuple_index ⟨_, (N _ hm).1, rfl⟩ PySem.F.entry_tuple_index (PySem.F.args_tuple_index_2 _ _) (tuple_index3 D x y z v n t1 t2 t3 t hv) ⟨(N _ hm).1, h⟩
theorem lix_index {x y z v : Int} {t1 t2 t3 t : Tok} {Q : Value → Shared → Prop} (N : News h₀ L s.heap news) (hm : (D, listOf #[.int x t1, .int y t2, .int z t3] n) ∈ news) (hv : x = v ∨ y = v ∨ z = v)
    (h : Q (.int (rk x y z v) s.toks) { s with toks := s.toks + 1 }) : wpAny (model prog w) A (call (.builtin "list.index") [.ref D, .int v t]) Q E s :=
  call_meets PySem.F.slot_list_index ⟨_, (N _ hm).1, rfl⟩ PySem.F.entry_list_index (PySem.F.args_list_index_2 _ _) (list_index3 D x y z v n t1 t2 t3 t hv) ⟨(N _ hm).1, h⟩
end
/-- x, y, z are 0, 1, 2 in some order -/
def Pm (x y z : Int) : Prop := (0 ≤ x ∧ x ≤ 2) ∧ (0 ≤ y ∧ y ≤ 2) ∧ (0 ≤ z ∧ z ≤ 2) ∧ x ≠ y ∧ x ≠ z ∧ y ≠ z
theorem Pm.hit {x y z v : Int} (P : Pm x y z) (h0 : 0 ≤ v) (h1 : v ≤ 2) : x = v ∨ y = v ∨ z = v := by
  obtain ⟨a, b, c, d, e, f⟩ := P
  omega
theorem rk_lo (x y z v : Int) : 0 ≤ rk x y z v := by
  unfold rk
  split
  · decide
  · split <;> decide
theorem rk_hi (x y z v : Int) : rk x y z v ≤ 2 := by
  unfold rk
  split
  · decide
  · split <;> decide
local macro_rules | `(tactic| walk_at "getMethod ref") => `(tactic| (k_here; (with_reducible show wpAny _ _ (getMethod (Value.ref _) (PySem.Str.ofString "index") _) _ _ _); first | k_dflt (refine' kf_method ?N ?m PySem.F.slot_list_index PySem.F.type_list_index ?_; (case N => k_asm); (case m => k_mem)) | k_dflt (refine' tix_method ?N ?m PySem.F.slot_tuple_index PySem.F.type_tuple_index ?_; (case N => k_asm); (case m => k_mem))))
local macro_rules | `(tactic| walk_at "call builtin:tuple.index") => `(tactic| (k_here; k_dflt (refine' tix_index ?N ?m ?v ?_; (case N => k_asm); (case m => k_mem); (case v => exact Pm.hit (by assumption) (by first | omega | exact rk_lo _ _ _ _ | exact rk_hi _ _ _ _) (by first | omega | exact rk_lo _ _ _ _ | exact rk_hi _ _ _ _)))))
local macro_rules | `(tactic| walk_at "call builtin:list.index") => `(tactic| (k_here; k_dflt (refine' lix_index ?N ?m ?v ?_; (case N => k_asm); (case m => k_mem); (case v => exact Pm.hit (by assumption) (by first | omega | exact rk_lo _ _ _ _ | exact rk_hi _ _ _ _) (by first | omega | exact rk_lo _ _ _ _ | exact rk_hi _ _ _ _)))))
theorem mu_new {hb g h' : Heap} {L : Addr} {news made : List (Addr × Obj)} (st : hb.StaysIn g) (N : News g L h' news) (sub : ∀ q ∈ made, q ∈ news) : Mu hb h' made := fun q hq => ⟨(N q (sub q hq)).1, by
  cases e : hb.get? q.1 with
  | none => rfl
  | some o => have z := (N q (sub q hq)).2.2; rw [st _ _ e] at z; cases z⟩
theorem ints3 {ys : List Value} {a b c : Int} (h : IntsAre ys [a, b, c]) : ∃ t1 t2 t3, ys = [.int a t1, .int b t2, .int c t3] := by
  cases h with
  | cons _ t1 h =>
    cases h with
    | cons _ t2 h =>
      cases h with
      | cons _ t3 h =>
        cases h
        exact ⟨t1, t2, t3, rfl⟩
/-- a tuple made by a callee joins the ledger -/
theorem news_tup {h₀ h h' : Heap} {L D : Addr} {m : Str → Option Value} {news : List (Addr × Obj)} {its : Array Value} {n : Nat} (F : Fr h₀ L h m) (N : News h₀ L h news) (x : Ext h h') (M : Mu h₀ h' [(D, ({ cls := .type "tuple", data := .seq its n } : Obj))]) :
    News h₀ L h' ((D, ({ cls := .type "tuple", data := .seq its n } : Obj)) :: news) := by
  have M1 := M _ (List.Mem.head _)
  refine List.forall_mem_cons.mpr ⟨⟨M1.1, fun e => ?_, M1.2⟩, News.keepsAll N x⟩
  obtain ⟨oL, es, ep, hL, hLd, _⟩ := (F.keeps x).ns
  rw [← e, M1.1] at hL
  cases hL
  cases hLd
theorem turned_walk_T (w : World) {mean : ExcName → Option Value} {mg mb : Str → Option Value} {hb : Heap} (KX : (HK w.params).In hb) (T : Top VW LL mean mg mb hb)
    (s : Shared) (xb : Ext hb s.heap) (p : Addr) (x y z : Int) (n : Nat) (t1 t2 t3 : Tok)
    (hm : Mu hb s.heap [(p, ({ cls := .type "tuple", data := .seq #[.int x t1, .int y t2, .int z t3] n } : Obj))]) (P : Pm x y z) (Q : Value → Shared → Prop)
    (hQ : ∀ D h' tk t1 t2 t3 n, Ext s.heap h' → Mu hb h' [(D, ({ cls := .type "tuple", data := .seq #[.int (rk x y z 0) t1, .int (rk x y z 1) t2, .int (rk x y z 2) t3] n } : Obj))] → Q (.ref D) { s with heap := h', toks := tk }) :
    wpAny (model pw w) (Ar 800 3000) (call (.ref 265) [.ref p]) Q (fun _ _ => False) s := by
  have st := mu_stays xb hm
  refine wpAny_call ?_
  refine' enterCM (binds := [(Str.ofString "pairs", .ref p)]) _ ?KX ?T ?xb ?hm ?k6 ?k7 ?k8 ?k9 ?kB ?kD ?_ ?c2 ?c3 ?c4; (case KX => assumption); (case T => assumption); (case xb => assumption); (case hm => assumption); (case k6 => k_is); (case k7 => k_is); (case k8 => decide); (case k9 => exact BindsTo.of_eq rfl); (case kB => exact rfl); (case kD => decide +kernel); (case c2 => exact rfl); (case c3 => exact rfl); (case c4 => exact rfl)
  intro G L' h₁ tk cells hg KX' T' F' N' C' l1
  k_cells C'
  k_lt l1
  k_steps
  all_goals (
    subst hg
    rename IntsAre _ _ => I9
    obtain ⟨_, _, _, e9⟩ := ints3 I9
    subst e9
    rename News _ _ _ _ => N9
    exact hQ _ _ _ _ _ _ _ (ext_read (by assumption) hm N9 (by lcg_sub)) (mu_new st N9 (by lcg_sub)))
theorem turned_line_T {w : World} {mean : ExcName → Option Value} {mg mb : Str → Option Value} {A : Around} {E : Value → Shared → Prop} {Q : Value → Shared → Prop} {s : Shared} {h₀ : Heap} {L : Addr} {m : Str → Option Value} {news : List (Addr × Obj)} {p : Addr} {x y z : Int} {n : Nat} {t1 t2 t3 : Tok}
    (F : Fr h₀ L s.heap m) (N : News h₀ L s.heap news) (KX : (HK w.params).In h₀) (T : Top VW LL mean mg mb h₀)
    (hm : (p, ({ cls := .type "tuple", data := .seq #[.int x t1, .int y t2, .int z t3] n } : Obj)) ∈ news) (P : Pm x y z) (hh : A.handled = none) (e1 : A.depth ≤ 800) (e2 : A.units ≤ 3000)
    (h : ∀ D h' tk t1 t2 t3 n, Fr h₀ L h' m → News h₀ L h' ((D, ({ cls := .type "tuple", data := .seq #[.int (rk x y z 0) t1, .int (rk x y z 1) t2, .int (rk x y z 2) t3] n } : Obj)) :: news) → Q (.ref D) { s with heap := h', toks := tk }) :
    wpAny (model pw w) A (call (.ref 265) [.ref p]) Q E s := by
  refine wk hh e1 e2 (wpAny_mono (turned_walk_T w KX T s F.keep p x y z n t1 t2 t3 (fun q hq => ?_) P Q (fun D h' tk t1 t2 t3 n x M => h D h' tk t1 t2 t3 n (F.keeps x) (news_tup F N x M))) (fun _ _ q => q) fun _ _ q => q.elim)
  rw [List.mem_singleton.mp hq]
  exact ⟨(N _ hm).1, (N _ hm).2.2⟩
theorem turned_walk_L (w : World) {mean : ExcName → Option Value} {mg mb : Str → Option Value} {hb : Heap} (KX : (HK w.params).In hb) (T : Top VW LL mean mg mb hb)
    (s : Shared) (xb : Ext hb s.heap) (p : Addr) (x y z : Int) (n : Nat) (t1 t2 t3 : Tok)
    (hm : Mu hb s.heap [(p, (listOf #[.int x t1, .int y t2, .int z t3] n))]) (P : Pm x y z) (Q : Value → Shared → Prop)
    (hQ : ∀ D h' tk t1 t2 t3 n, Ext s.heap h' → Mu hb h' [(D, ({ cls := .type "tuple", data := .seq #[.int (rk x y z 0) t1, .int (rk x y z 1) t2, .int (rk x y z 2) t3] n } : Obj))] → Q (.ref D) { s with heap := h', toks := tk }) :
    wpAny (model pw w) (Ar 800 3000) (call (.ref 265) [.ref p]) Q (fun _ _ => False) s := by
  have st := mu_stays xb hm
  refine wpAny_call ?_
  refine' enterCM (binds := [(Str.ofString "pairs", .ref p)]) _ ?KX ?T ?xb ?hm ?k6 ?k7 ?k8 ?k9 ?kB ?kD ?_ ?c2 ?c3 ?c4; (case KX => assumption); (case T => assumption); (case xb => assumption); (case hm => assumption); (case k6 => k_is); (case k7 => k_is); (case k8 => decide); (case k9 => exact BindsTo.of_eq rfl); (case kB => exact rfl); (case kD => decide +kernel); (case c2 => exact rfl); (case c3 => exact rfl); (case c4 => exact rfl)
  intro G L' h₁ tk cells hg KX' T' F' N' C' l1
  k_cells C'
  k_lt l1
  k_steps
  all_goals (
    subst hg
    rename IntsAre _ _ => I9
    obtain ⟨_, _, _, e9⟩ := ints3 I9
    subst e9
    rename News _ _ _ _ => N9
    exact hQ _ _ _ _ _ _ _ (ext_read (by assumption) hm N9 (by lcg_sub)) (mu_new st N9 (by lcg_sub)))
theorem turned_line_L {w : World} {mean : ExcName → Option Value} {mg mb : Str → Option Value} {A : Around} {E : Value → Shared → Prop} {Q : Value → Shared → Prop} {s : Shared} {h₀ : Heap} {L : Addr} {m : Str → Option Value} {news : List (Addr × Obj)} {p : Addr} {x y z : Int} {n : Nat} {t1 t2 t3 : Tok}
    (F : Fr h₀ L s.heap m) (N : News h₀ L s.heap news) (KX : (HK w.params).In h₀) (T : Top VW LL mean mg mb h₀)
    (hm : (p, (listOf #[.int x t1, .int y t2, .int z t3] n)) ∈ news) (P : Pm x y z) (hh : A.handled = none) (e1 : A.depth ≤ 800) (e2 : A.units ≤ 3000)
    (h : ∀ D h' tk t1 t2 t3 n, Fr h₀ L h' m → News h₀ L h' ((D, ({ cls := .type "tuple", data := .seq #[.int (rk x y z 0) t1, .int (rk x y z 1) t2, .int (rk x y z 2) t3] n } : Obj)) :: news) → Q (.ref D) { s with heap := h', toks := tk }) :
    wpAny (model pw w) A (call (.ref 265) [.ref p]) Q E s := by
  refine wk hh e1 e2 (wpAny_mono (turned_walk_L w KX T s F.keep p x y z n t1 t2 t3 (fun q hq => ?_) P Q (fun D h' tk t1 t2 t3 n x M => h D h' tk t1 t2 t3 n (F.keeps x) (news_tup F N x M))) (fun _ _ q => q) fun _ _ q => q.elim)
  rw [List.mem_singleton.mp hq]
  exact ⟨(N _ hm).1, (N _ hm).2.2⟩
/-- a tuple of three ints -/
def IsT3 (o : Obj) (x y z : Int) : Prop := ∃ t1 t2 t3 n, o = ({ cls := .type "tuple", data := .seq #[.int x t1, .int y t2, .int z t3] n } : Obj)
def pk {α : Type} (i : Int) (a b c : α) : α := if i = 0 then a else if i = 1 then b else c
/-- one of three -/
theorem three {i : Int} (h0 : 0 ≤ i) (h1 : i ≤ 2) : i = 0 ∨ i = 1 ∨ i = 2 := by omega
def Halt (p : Prop) : Prop := p
theorem Halt.mk {p : Prop} (h : Halt p) : p := h
theorem Fr.congr {h₀ h : Heap} {L : Addr} {m m' : Str → Option Value} (F : Fr h₀ L h m) (e : ∀ y, m y = m' y) : Fr h₀ L h m' := by
  have : m = m' := funext e
  rw [← this]; exact F
section
variable {prog : Program} {w : World} {A : Around} {E : Value → Shared → Prop} {s : Shared} {h₀ : Heap} {L D : Addr} {news : List (Addr × Obj)} {n : Nat}
theorem t3_get {o : Obj} {x y z : Int} {i : Int} {u : Tok} {Q : Value → Shared → Prop} (N : News h₀ L s.heap news) (hm : (D, o) ∈ news) (ho : IsT3 o x y z) (h0 : 0 ≤ i) (h1 : i ≤ 2)
    (h : ∀ t, Q (.int (pk i x y z) t) s) : wpAny (model prog w) A (getItem (.ref D) (.int i u)) Q E s := by
  obtain ⟨t1, t2, t3, n, rfl⟩ := ho
  have ht : IsTup s.heap D #[.int x t1, .int y t2, .int z t3] := ⟨_, (N _ hm).1, rfl, n, rfl⟩
  rcases three h0 h1 with rfl | rfl | rfl
  · exact getItem_tuple ht (by decide) (by decide) (j := 0) rfl rfl (h t1)
  · exact getItem_tuple ht (by decide) (by decide) (j := 1) rfl rfl (h t2)
  · exact getItem_tuple ht (by decide) (by decide) (j := 2) rfl rfl (h t3)
theorem t3_method {o : Obj} {x y z : Int} {name : Str} {id : String} {pl : Sem Bool} {Q : Value × List Value → Shared → Prop} (N : News h₀ L s.heap news) (hm : (D, o) ∈ news) (ho : IsT3 o x y z) (slot : Slot "tuple" name id) (hty : typeOf (.builtin id) = pure (.type "method_descriptor"))
    (h : Q (.builtin id, [.ref D]) s) : wpAny (model prog w) A (getMethod (.ref D) name pl) Q E s := by
  obtain ⟨t1, t2, t3, n, rfl⟩ := ho
  exact tix_method N hm slot hty h
theorem t3_index {o : Obj} {x y z v : Int} {t : Tok} {Q : Value → Shared → Prop} (N : News h₀ L s.heap news) (hm : (D, o) ∈ news) (ho : IsT3 o x y z) (P : Pm x y z) (h0 : 0 ≤ v) (h1 : v ≤ 2)
    (h : Q (.int (rk x y z v) s.toks) { s with toks := s.toks + 1 }) : wpAny (model prog w) A (call (.builtin "tuple.index") [.ref D, .int v t]) Q E s := by
  obtain ⟨t1, t2, t3, n, rfl⟩ := ho
  exact tix_index N hm (P.hit h0 h1) h
theorem rows_get {a0 a1 a2 : Addr} {o0 o1 o2 : Obj} {S : Int → Int → Int} {i : Int} {u : Tok} {Q : Value → Shared → Prop} (N : News h₀ L s.heap news) (hm : (D, listOf #[.ref a0, .ref a1, .ref a2] n) ∈ news)
    (h0 : 0 ≤ i) (h1 : i ≤ 2) (m0 : (a0, o0) ∈ news) (m1 : (a1, o1) ∈ news) (m2 : (a2, o2) ∈ news) (i0 : IsT3 o0 (S 0 0) (S 0 1) (S 0 2)) (i1 : IsT3 o1 (S 1 0) (S 1 1) (S 1 2)) (i2 : IsT3 o2 (S 2 0) (S 2 1) (S 2 2))
    (HP : ∀ i, 0 ≤ i → i ≤ 2 → Pm (S i 0) (S i 1) (S i 2)) (h : ∀ a o, News h₀ L s.heap ((a, o) :: news) → IsT3 o (S i 0) (S i 1) (S i 2) → Pm (S i 0) (S i 1) (S i 2) → Q (.ref a) s) : wpAny (model prog w) A (getItem (.ref D) (.int i u)) Q E s := by
  have hl : s.heap.IsList D #[.ref a0, .ref a1, .ref a2] := PySem.IsL.isList (n := n) (N _ hm).1
  have ad : ∀ {a o}, (a, o) ∈ news → News h₀ L s.heap ((a, o) :: news) := fun m => List.forall_mem_cons.mpr ⟨N _ m, N⟩
  rcases three h0 h1 with rfl | rfl | rfl
  · exact wpAny_getItem_list hl (by decide) (by decide) rfl (h _ _ (ad m0) i0 (HP _ h0 h1))
  · exact wpAny_getItem_list hl (by decide) (by decide) rfl (h _ _ (ad m1) i1 (HP _ h0 h1))
  · exact wpAny_getItem_list hl (by decide) (by decide) rfl (h _ _ (ad m2) i2 (HP _ h0 h1))
variable {env : Env} {x : Str} {body : List Stmt} {Q : Flow → Shared → Prop}
theorem range_ind {I : Addr} {a : Int} {n : Nat} {m₀ : Str → Option Value} {news₀ : List (Addr × Obj)} (J : Nat → (Str → Option Value) → List (Addr × Obj) → Prop) (start : J 0 m₀ news₀)
    (step : ∀ i m news t h tk, i < n → J i m news → Fr h₀ env.locals h (fun y => if y = x then some (.int (a + (i : Int)) t) else m y) →
      News h₀ env.locals h ((I, itR (a + ((i + 1 : Nat) : Int)) ((n : Int) - ((i + 1 : Nat) : Int))) :: news) →
      wpAny (model prog w) A (execs body env) (UnrPost h₀ env.locals { s with heap := h, toks := tk } I (itR (a + ((i + 1 : Nat) : Int)) ((n : Int) - ((i + 1 : Nat) : Int))) (J (i + 1)) Q) E { s with heap := h, toks := tk })
    (fin : ∀ m news h tk, J n m news → Fr h₀ env.locals h m → News h₀ env.locals h news → Q .next { s with heap := h, toks := tk }) :
    Halt (RangeRest prog w A E h₀ env x body Q s I a n n 0 m₀ news₀) := by
  have key : ∀ k i m news, i + k = n → J i m news → RangeRest prog w A E h₀ env x body Q s I a n k i m news := by
    intro k
    induction k with
    | zero =>
      intro i m news e j h tk F N
      have e : i = n := e
      subst e
      exact fin m news h tk j F N
    | succ k ih =>
      intro i m news e j t h tk F N
      refine wpAny_mono (step i m news t h tk (by omega) j F N) (fun f s₂ p => ?_) fun _ _ e => e
      have go : UnrEnd h₀ env.locals { s with heap := h, toks := tk } I (itR (a + ((i + 1 : Nat) : Int)) ((n : Int) - ((i + 1 : Nat) : Int))) (J (i + 1)) s₂ →
          UnrEnd h₀ env.locals { s with heap := h, toks := tk } I (itR (a + ((i + 1 : Nat) : Int)) ((n : Int) - ((i + 1 : Nat) : Int))) (RangeRest prog w A E h₀ env x body Q s I a n k (i + 1)) s₂ := by
        rintro ⟨h', tk', m', news', e', F', N', off, r⟩
        exact ⟨h', tk', m', news', e', F', N', off, ih (i + 1) m' news' (by omega) r⟩
      cases f with
      | ret v => exact p
      | brk => exact p
      | next => exact go p
      | cont => exact go p
  exact key n 0 m₀ news₀ (by omega) start
end
section
variable {prog : Program} {w : World} {A : Around} {E : Value → Shared → Prop} {s : Shared} {h₀ : Heap} {L D : Addr} {news : List (Addr × Obj)} {n : Nat} {value slice : PySem.Expr}
theorem t3_item {o : Obj} {x y z : Int} {i : Int} {u : Tok} {Q : Value → Shared → Prop} (N : News h₀ L s.heap news) (hm : (D, o) ∈ news) (ho : IsT3 o x y z) (h0 : 0 ≤ i) (h1 : i ≤ 2)
    (h : ∀ t, Q (.int (pk i x y z) t) s) (hs : subscripted slice false (.ref D) (.int i u) = operate [.ref D, .int i u] (getItem (.ref D) (.int i u))) : wpAny (model prog w) A (subscriptTail value slice (.ref D) (.int i u)) Q E s :=
  have ho' := ho
  have ht : ∃ its, IsTup s.heap D its := by obtain ⟨t1, t2, t3, n, rfl⟩ := ho'; exact ⟨_, _, (N _ hm).1, rfl, n, rfl⟩
  tail_any (let ⟨_, ht⟩ := ht; ht.typeIs) slot_tuple_getitem.lookup (t3_get N hm ho h0 h1 h) hs
theorem rows_item {a0 a1 a2 : Addr} {o0 o1 o2 : Obj} {S : Int → Int → Int} {i : Int} {u : Tok} {Q : Value → Shared → Prop} (N : News h₀ L s.heap news) (hm : (D, listOf #[.ref a0, .ref a1, .ref a2] n) ∈ news)
    (h0 : 0 ≤ i) (h1 : i ≤ 2) (m0 : (a0, o0) ∈ news) (m1 : (a1, o1) ∈ news) (m2 : (a2, o2) ∈ news) (i0 : IsT3 o0 (S 0 0) (S 0 1) (S 0 2)) (i1 : IsT3 o1 (S 1 0) (S 1 1) (S 1 2)) (i2 : IsT3 o2 (S 2 0) (S 2 1) (S 2 2))
    (HP : ∀ i, 0 ≤ i → i ≤ 2 → Pm (S i 0) (S i 1) (S i 2)) (h : ∀ a o, News h₀ L s.heap ((a, o) :: news) → IsT3 o (S i 0) (S i 1) (S i 2) → Pm (S i 0) (S i 1) (S i 2) → Q (.ref a) s)
    (hs : subscripted slice false (.ref D) (.int i u) = operate [.ref D, .int i u] (getItem (.ref D) (.int i u))) : wpAny (model prog w) A (subscriptTail value slice (.ref D) (.int i u)) Q E s :=
  tail_any (PySem.IsL.isList (n := n) (N _ hm).1).typeIs slot_list_getitem.lookup (rows_get N hm h0 h1 m0 m1 m2 i0 i1 i2 HP h) hs
end
theorem Pm.pk_lo {x y z : Int} (P : Pm x y z) (i : Int) : 0 ≤ pk i x y z := by
  obtain ⟨a, b, c, _⟩ := P
  unfold pk
  split
  · exact a.1
  · split
    · exact b.1
    · exact c.1
theorem Pm.pk_hi {x y z : Int} (P : Pm x y z) (i : Int) : pk i x y z ≤ 2 := by
  obtain ⟨a, b, c, _⟩ := P
  unfold pk
  split
  · exact a.2
  · split
    · exact b.2
    · exact c.2
theorem Halt.of {p : Prop} (h : p) : Halt p := h
/-- three names over a ground map -/
abbrev cm3 (a b c : Str) (va vb vc : Option Value) (m₀ : Str → Option Value) : Str → Option Value := fun y => if y = a then va else if y = b then vb else if y = c then vc else m₀ y
theorem cm3_a {a b c : Str} {va vb vc v : Option Value} {m₀ : Str → Option Value} (y : Str) : (if y = a then v else cm3 a b c va vb vc m₀ y) = cm3 a b c v vb vc m₀ y := by
  unfold cm3
  split
  · rfl
  · rfl
theorem cm3_b {a b c : Str} {va vb vc v : Option Value} {m₀ : Str → Option Value} (h : b ≠ a) (y : Str) : (if y = b then v else cm3 a b c va vb vc m₀ y) = cm3 a b c va v vc m₀ y := by
  unfold cm3
  by_cases e : y = b
  · rw [if_pos e, if_neg (by rw [e]; exact h), if_pos e]
  · simp only [if_neg e]
theorem cm3_c {a b c : Str} {va vb vc v : Option Value} {m₀ : Str → Option Value} (h : c ≠ a) (h' : c ≠ b) (y : Str) : (if y = c then v else cm3 a b c va vb vc m₀ y) = cm3 a b c va vb v m₀ y := by
  unfold cm3
  by_cases e : y = c
  · rw [if_pos e, if_neg (by rw [e]; exact h), if_neg (by rw [e]; exact h'), if_pos e]
  · simp only [if_neg e]
theorem cm3_start {a b c : Str} {m₀ : Str → Option Value} (ha : m₀ a = none) (hb : m₀ b = none) (hc : m₀ c = none) (y : Str) : m₀ y = cm3 a b c none none none m₀ y := by
  unfold cm3
  by_cases e : y = a
  · rw [if_pos e, e, ha]
  · rw [if_neg e]
    by_cases e : y = b
    · rw [if_pos e, e, hb]
    · rw [if_neg e]
      by_cases e : y = c
      · rw [if_pos e, e, hc]
      · rw [if_neg e]
theorem if_at {y a : Str} {v : Option Value} {m m' : Str → Option Value} (h : m y = m' y) : (if y = a then v else m y) = (if y = a then v else m' y) := by rw [h]
theorem News.sub {h₀ h : Heap} {L : Addr} {a b : List (Addr × Obj)} (N : News h₀ L h a) (s : ∀ q ∈ b, q ∈ a) : News h₀ L h b := fun q hq => N q (s q hq)
theorem News.sub1 {h₀ h : Heap} {L : Addr} {x : Addr × Obj} {a b : List (Addr × Obj)} (N : News h₀ L h (x :: a)) (s : ∀ q ∈ b, q ∈ a) : News h₀ L h (x :: b) :=
  List.forall_mem_cons.mpr ⟨N x (List.Mem.head _), fun q hq => N q (.tail _ (s q hq))⟩
local macro_rules | `(tactic| walk_at "getMethod ref") => `(tactic| (k_here; (with_reducible show wpAny _ _ (getMethod (Value.ref _) (PySem.Str.ofString "index") _) _ _ _); k_dflt (refine' t3_method ?N ?m ?o PySem.F.slot_tuple_index PySem.F.type_tuple_index ?_; (case N => k_asm); (case m => k_mem); (case o => assumption))))
local macro_rules | `(tactic| walk_at "call builtin:tuple.index") => `(tactic| (k_here; k_dflt (refine' t3_index ?N ?m ?o ?P ?b0 ?b1 ?_; (case N => k_asm); (case m => k_mem); (case o | P => assumption); (case b0 => first | omega | exact rk_lo _ _ _ _ | exact Pm.pk_lo (by assumption) _); (case b1 => first | omega | exact rk_hi _ _ _ _ | exact Pm.pk_hi (by assumption) _))))
local macro_rules | `(tactic| walk_at "subscriptTail") => `(tactic| (k_here; (with_reducible show wpAny _ _ (subscriptTail _ _ (Value.ref _) (Value.int _ _)) _ _ _); (first | k_dflt (refine' t3_item ?N ?m ?o ?b0 ?b1 ?_ ?hs; (case N => k_asm); (case m => k_mem); (case o => assumption); (case b0 | b1 => omega); (case hs => with_unfolding_all rfl); intro t9) | k_dflt (refine' rows_item ?N ?m ?b0 ?b1 ?m0 ?m1 ?m2 ?i0 ?i1 ?i2 ?HP ?_ ?hs; (case N => k_asm); (case m => k_mem); (case b0 | b1 => omega); (case m0 | m1 | m2 => k_mem); (case i0 | i1 | i2 | HP => assumption); (case hs => with_unfolding_all rfl); intro a9 o9 N9 i9 P9))))
section
local macro_rules | `(tactic| walk_at "RangeRest") => `(tactic| refine Halt.mk ?_) -- here
local macro_rules | `(tactic| walk_at "UnrEnd") => `(tactic| refine Halt.mk ?_) -- here
def Blk (S B : Int → Int → Int) (p : Int → Int) (w g : Int) : Prop :=
  rk (S w 0) (S w 1) (S w 2) g < rk (S w 0) (S w 1) (S w 2) (pk w (p 0) (p 1) (p 2)) ∧ rk (B g 0) (B g 1) (B g 2) w < rk (B g 0) (B g 1) (B g 2) (rk (p 0) (p 1) (p 2) g)
def Stable (S B : Int → Int → Int) (p : Int → Int) : Prop := ∀ w g, 0 ≤ w → w ≤ 2 → 0 ≤ g → g ≤ 2 → ¬ Blk S B p w g
theorem holds_walk (w : World) {mean : ExcName → Option Value} {mg mb : Str → Option Value} {hb : Heap} (KX : (HK w.params).In hb) (T : Top VW LL mean mg mb hb)
    (s : Shared) (xb : Ext hb s.heap) (pa su as a0 a1 a2 b0 b1 b2 : Addr) (po c0 c1 c2 d0 d1 d2 : Obj) (n n2 : Nat) (S B : Int → Int → Int) (p : Int → Int)
    (hm : Mu hb s.heap [(pa, po), (su, listOf #[.ref a0, .ref a1, .ref a2] n), (as, listOf #[.ref b0, .ref b1, .ref b2] n2), (a0, c0), (a1, c1), (a2, c2), (b0, d0), (b1, d1), (b2, d2)])
    (ip : IsT3 po (p 0) (p 1) (p 2)) (i0 : IsT3 c0 (S 0 0) (S 0 1) (S 0 2)) (i1 : IsT3 c1 (S 1 0) (S 1 1) (S 1 2)) (i2 : IsT3 c2 (S 2 0) (S 2 1) (S 2 2))
    (j0 : IsT3 d0 (B 0 0) (B 0 1) (B 0 2)) (j1 : IsT3 d1 (B 1 0) (B 1 1) (B 1 2)) (j2 : IsT3 d2 (B 2 0) (B 2 1) (B 2 2))
    (Pp : Pm (p 0) (p 1) (p 2)) (PS : ∀ i, 0 ≤ i → i ≤ 2 → Pm (S i 0) (S i 1) (S i 2)) (PB : ∀ i, 0 ≤ i → i ≤ 2 → Pm (B i 0) (B i 1) (B i 2)) (Q : Value → Shared → Prop)
    (hQ : ∀ b h' tk, (b = true ↔ Stable S B p) → Ext s.heap h' → Q (.bool b) { s with heap := h', toks := tk }) :
    wpAny (model pw w) (Ar 800 3000) (call (.ref 255) [.ref pa, .ref su, .ref as]) Q (fun _ _ => False) s := by
  refine wpAny_call ?_
  refine' enterM (binds := [(Str.ofString "pairs", .ref pa), (Str.ofString "suitors", .ref su), (Str.ofString "asked", .ref as)]) _ ?KX ?T ?xb ?hm ?k6 ?k7 ?k8 ?k9 ?kB ?_ ?c2 ?c3 ?c4 ?c5; (case KX => assumption); (case T => assumption); (case xb => assumption); (case hm => assumption); (case k6 => k_is); (case k7 => k_is); (case k8 => decide); (case k9 => exact BindsTo.of_eq rfl); (case kB => exact locs rfl); (case c5 => decide); (case c2 => exact rfl); (case c3 => exact rfl); (case c4 => exact rfl)
  intro G L' h₁ hg KX' T' F' N' l0
  have l0' := l0
  k_lt l0'
  k_steps
  rename _ ∧ _ => l1
  rename Addr => iO
  have o1 : ∀ q ∈ [(pa, po), (su, listOf #[.ref a0, .ref a1, .ref a2] n), (as, listOf #[.ref b0, .ref b1, .ref b2] n2), (a0, c0), (a1, c1), (a2, c2), (b0, d0), (b1, d1), (b2, d2)], @Ne Nat q.1 iO := by
    (repeat' first | exact List.forall_mem_nil _ | refine List.forall_mem_cons.mpr ⟨?_, ?_⟩)
    all_goals (dsimp only; omega)
  refine range_ind (J := fun i m news => (∀ q ∈ [(pa, po), (su, listOf #[.ref a0, .ref a1, .ref a2] n), (as, listOf #[.ref b0, .ref b1, .ref b2] n2), (a0, c0), (a1, c1), (a2, c2), (b0, d0), (b1, d1), (b2, d2)], q ∈ news) ∧ (∃ va vb vc, ∀ y, m y = cm3 (Str.ofString "other") (Str.ofString "goal") (Str.ofString "who") va vb vc (fun y => List.lookup y [(Str.ofString "pairs", Value.ref pa), (Str.ofString "suitors", Value.ref su), (Str.ofString "asked", Value.ref as)].reverse) y) ∧ (∀ w g : Int, 0 ≤ w → w < i → 0 ≤ g → g ≤ 2 → ¬ Blk S B p w g)) ?st ?sp ?fi
  case st => exact ⟨fun _ h => h, ⟨none, none, none, cm3_start rfl rfl rfl⟩, fun w g h0 h1 => absurd h1 (by omega)⟩
  case fi =>
    rintro m news h tk ⟨sub, ⟨va, vb, vc, hm9⟩, hJ⟩ F N
    have F2 := Fr.congr F hm9
    have N2 := News.sub N sub
    clear F N sub hm9
    k_steps
    subst hg
    exact hQ _ _ _ ⟨fun _ w g h0 h1 h2 h3 => hJ w g h0 (by omega) h2 h3, fun _ => rfl⟩ (ext_read F2 hm N2 (fun _ q => q))
  case sp =>
    rintro i m news t h tk hi ⟨sub, ⟨va, vb, vc, hm9⟩, hJ⟩ F N
    have F2 := Fr.congr F (fun y => (if_at (hm9 y)).trans (cm3_c (by decide) (by decide) y))
    have N2 := News.sub1 N sub
    clear F N sub hm9
    k_steps
    rename _ ∧ _ => l2
    rename Addr => jO
    have o2 : ∀ q ∈ (iO, itR (0 + ((i + 1 : Nat) : Int)) (((3 : Nat) : Int) - ((i + 1 : Nat) : Int))) :: [(pa, po), (su, listOf #[.ref a0, .ref a1, .ref a2] n), (as, listOf #[.ref b0, .ref b1, .ref b2] n2), (a0, c0), (a1, c1), (a2, c2), (b0, d0), (b1, d1), (b2, d2)], @Ne Nat q.1 jO := by
      (repeat' first | exact List.forall_mem_nil _ | refine List.forall_mem_cons.mpr ⟨?_, ?_⟩)
      all_goals (dsimp only; omega)
    refine range_ind (J := fun j m news => (∀ q ∈ (iO, itR (0 + ((i + 1 : Nat) : Int)) (((3 : Nat) : Int) - ((i + 1 : Nat) : Int))) :: [(pa, po), (su, listOf #[.ref a0, .ref a1, .ref a2] n), (as, listOf #[.ref b0, .ref b1, .ref b2] n2), (a0, c0), (a1, c1), (a2, c2), (b0, d0), (b1, d1), (b2, d2)], q ∈ news) ∧ (∃ va vb, ∀ y, m y = cm3 (Str.ofString "other") (Str.ofString "goal") (Str.ofString "who") va vb (some (.int (0 + (i : Int)) t)) (fun y => List.lookup y [(Str.ofString "pairs", Value.ref pa), (Str.ofString "suitors", Value.ref su), (Str.ofString "asked", Value.ref as)].reverse) y) ∧ (∀ g : Int, 0 ≤ g → g < j → ¬ Blk S B p (0 + (i : Int)) g)) ?st2 ?sp2 ?fi2
    case st2 => exact ⟨fun _ h => h, ⟨va, vb, fun _ => rfl⟩, fun g h0 h1 => absurd h1 (by omega)⟩
    case fi2 =>
      rintro m news h tk ⟨sub, ⟨va, vb, hm9⟩, hJ2⟩ F N
      have F2 := Fr.congr F hm9
      have N2 := News.sub N sub
      clear F N sub hm9
      k_steps
      refine Halt.of (UnrEnd.intro F2 N2 [(pa, po), (su, listOf #[.ref a0, .ref a1, .ref a2] n), (as, listOf #[.ref b0, .ref b1, .ref b2] n2), (a0, c0), (a1, c1), (a2, c2), (b0, d0), (b1, d1), (b2, d2)] (fun _ h => h) o1 ⟨fun _ h => h, ⟨va, vb, _, fun _ => rfl⟩, fun w g h0 h1 h2 h3 => ?_⟩)
      by_cases e : w < i
      · exact hJ w g h0 e h2 h3
      · obtain rfl : w = 0 + (i : Int) := by omega
        exact hJ2 g h2 (by omega)
    case sp2 =>
      rintro j m news t2 h tk hj ⟨sub, ⟨va, vb, hm9⟩, hJ2⟩ F N
      have F2 := Fr.congr F (fun y => (if_at (hm9 y)).trans (cm3_b (by decide) y))
      have N2 := News.sub1 N sub
      clear F N sub hm9
      k_steps
      all_goals rename News _ _ _ _ => N9
      · subst hg
        exact hQ _ _ _ ⟨fun q => absurd q (by decide), fun st => absurd ⟨by assumption, by assumption⟩ (st (0 + (i : Int)) (0 + (j : Int)) (by omega) (by omega) (by omega) (by omega))⟩ (ext_read (by assumption) hm N9 (by lcg_sub))
      · refine Halt.of (UnrEnd.intro (by assumption) N9 ((iO, itR (0 + ((i + 1 : Nat) : Int)) (((3 : Nat) : Int) - ((i + 1 : Nat) : Int))) :: [(pa, po), (su, listOf #[.ref a0, .ref a1, .ref a2] n), (as, listOf #[.ref b0, .ref b1, .ref b2] n2), (a0, c0), (a1, c1), (a2, c2), (b0, d0), (b1, d1), (b2, d2)]) (by lcg_sub) o2 ⟨fun _ h => h, ⟨_, _, fun y => cm3_a y⟩, fun g h0 h1 => ?_⟩)
        by_cases e : g < j
        · exact hJ2 g h0 e
        · obtain rfl : g = 0 + (j : Int) := by omega
          exact fun q => absurd q.2 (by assumption)
      · refine Halt.of (UnrEnd.intro (by assumption) N9 ((iO, itR (0 + ((i + 1 : Nat) : Int)) (((3 : Nat) : Int) - ((i + 1 : Nat) : Int))) :: [(pa, po), (su, listOf #[.ref a0, .ref a1, .ref a2] n), (as, listOf #[.ref b0, .ref b1, .ref b2] n2), (a0, c0), (a1, c1), (a2, c2), (b0, d0), (b1, d1), (b2, d2)]) (by lcg_sub) o2 ⟨fun _ h => h, ⟨_, _, fun y => cm3_a y⟩, fun g h0 h1 => ?_⟩)
        by_cases e : g < j
        · exact hJ2 g h0 e
        · obtain rfl : g = 0 + (j : Int) := by omega
          exact fun q => absurd q.1 (by assumption)
end
/-- three ints that stand at an address -/
def T3At (h : Heap) (a : Addr) (x y z : Int) : Prop := ∃ o, h.get? a = some o ∧ IsT3 o x y z
def L3At (h : Heap) (a : Addr) (x y z : Int) : Prop := ∃ t1 t2 t3 n, h.get? a = some (listOf #[.int x t1, .int y t2, .int z t3] n)
def S3At (h : Heap) (a : Addr) (x y z : Int) : Prop := T3At h a x y z ∨ L3At h a x y z
theorem T3At.keep {h h' : Heap} {a : Addr} {x y z : Int} (o : T3At h a x y z) (k : Ext h h') : T3At h' a x y z := let ⟨b, e, r⟩ := o; ⟨b, k _ _ e, r⟩
theorem S3At.keep {h h' : Heap} {a : Addr} {x y z : Int} (o : S3At h a x y z) (k : Ext h h') : S3At h' a x y z := o.imp (fun q => q.keep k) (fun ⟨a, b, c, d, e⟩ => ⟨a, b, c, d, k _ _ e⟩)
section
variable {prog : Program} {w : World} {A : Around} {E : Value → Shared → Prop} {s : Shared} {h₀ : Heap} {L D : Addr} {m : Str → Option Value} {news : List (Addr × Obj)} {n : Nat} {value slice : PySem.Expr}
theorem b3_method {x y z : Int} {name : Str} {id : String} {pl : Sem Bool} {Q : Value × List Value → Shared → Prop} (F : Fr h₀ L s.heap m) (ho : T3At h₀ D x y z) (slot : Slot "tuple" name id) (hty : typeOf (.builtin id) = pure (.type "method_descriptor"))
    (h : Q (.builtin id, [.ref D]) s) : wpAny (model prog w) A (getMethod (.ref D) name pl) Q E s := by
  obtain ⟨o, e, t1, t2, t3, n, rfl⟩ := ho
  have g := F.keep _ _ e
  exact getMethod_builtin ⟨_, g, rfl⟩ PySem.F.plainAttrs_tuple slot hty (fun a e => by cases e; exact ⟨_, g, rfl⟩) h
theorem b3_index {x y z v : Int} {t : Tok} {Q : Value → Shared → Prop} (F : Fr h₀ L s.heap m) (ho : T3At h₀ D x y z) (P : Pm x y z) (h0 : 0 ≤ v) (h1 : v ≤ 2)
    (h : Q (.int (rk x y z v) s.toks) { s with toks := s.toks + 1 }) : wpAny (model prog w) A (call (.builtin "tuple.index") [.ref D, .int v t]) Q E s := by
  obtain ⟨o, e, t1, t2, t3, n, rfl⟩ := ho
  have g := F.keep _ _ e
  exact call_meets PySem.F.slot_tuple_index ⟨_, g, rfl⟩ PySem.F.entry_tuple_index (PySem.F.args_tuple_index_2 _ _) (tuple_index3 D x y z v n t1 t2 t3 t (P.hit h0 h1)) ⟨g, h⟩
theorem b3_item {x y z : Int} {i : Int} {u : Tok} {Q : Value → Shared → Prop} (F : Fr h₀ L s.heap m) (ho : S3At h₀ D x y z) (h0 : 0 ≤ i) (h1 : i ≤ 2)
    (h : ∀ t, Q (.int (pk i x y z) t) s) (hs : subscripted slice false (.ref D) (.int i u) = operate [.ref D, .int i u] (getItem (.ref D) (.int i u))) : wpAny (model prog w) A (subscriptTail value slice (.ref D) (.int i u)) Q E s := by
  rcases ho with ⟨o, e, t1, t2, t3, n, rfl⟩ | ⟨t1, t2, t3, n, e⟩
  · have g := F.keep _ _ e
    have ht : IsTup s.heap D #[.int x t1, .int y t2, .int z t3] := ⟨_, g, rfl, n, rfl⟩
    refine tail_any ht.typeIs slot_tuple_getitem.lookup ?_ hs
    rcases three h0 h1 with rfl | rfl | rfl
    · exact getItem_tuple ht (by decide) (by decide) (j := 0) rfl rfl (h t1)
    · exact getItem_tuple ht (by decide) (by decide) (j := 1) rfl rfl (h t2)
    · exact getItem_tuple ht (by decide) (by decide) (j := 2) rfl rfl (h t3)
  · have g := F.keep _ _ e
    have hl : s.heap.IsList D #[.int x t1, .int y t2, .int z t3] := PySem.IsL.isList (n := n) g
    refine tail_any hl.typeIs slot_list_getitem.lookup ?_ hs
    rcases three h0 h1 with rfl | rfl | rfl
    · exact wpAny_getItem_list hl (by decide) (by decide) rfl (h t1)
    · exact wpAny_getItem_list hl (by decide) (by decide) rfl (h t2)
    · exact wpAny_getItem_list hl (by decide) (by decide) rfl (h t3)
variable {env : Env} {elt : Expr} {x : Str} {scope : Scope} {cl : List (Str × Addr)} {S : List (Addr × Obj) → Prop} {P : Nat → Value → Prop} {Fin : List Value → List (Addr × Obj) → Prop}
theorem comp_ind {n : Nat} {news₀ : List (Addr × Obj)} (J : Nat → List Value → List (Addr × Obj) → Prop) (start : J 0 [] news₀)
    (step : ∀ i ys news v I oI C oC D m₂ h tk (E' : Value → Shared → Prop), i < n → J i ys news → P i v → LCg.NsObj oC m₂ → m₂ x = some v → Fr h₀ L h m → News h₀ L h ((I, oI) :: (C, oC) :: (D, LCg.lst ys) :: news) → LCg.Off3 I C D news → ((@Ne Nat I C) ∧ (@Ne Nat I D) ∧ (@Ne Nat C D)) →
      wpAny (model prog w) A (eval elt (compEnvC scope cl C env)) (LCg.CompEnd h₀ L m { s with heap := h, toks := tk } I oI C oC D (LCg.lst ys) S (fun y news' => J (i + 1) (ys ++ [y]) news')) E' { s with heap := h, toks := tk })
    (fin : ∀ ys news, J n ys news → Fin ys news) : LCg.CompRest prog w A h₀ L m env elt x scope cl s S P Fin n 0 [] news₀ := by
  have key : ∀ k i ys news, i + k = n → J i ys news → LCg.CompRest prog w A h₀ L m env elt x scope cl s S P Fin k i ys news := by
    intro k
    induction k with
    | zero =>
      intro i ys news e j
      have e : i = n := e
      subst e
      exact fin ys news j
    | succ k ih =>
      intro i ys news e j v I oI C oC D m₂ h tk E' hp hc hx F N off ne
      refine wpAny_mono (step i ys news v I oI C oC D m₂ h tk E' (by omega) j hp hc hx F N off ne) (fun y s₂ p => ?_) fun _ _ e => e
      obtain ⟨h', tk', news', e', F', N', off', hS, r⟩ := p
      exact ⟨h', tk', news', e', F', N', off', hS, ih (i + 1) _ news' (by omega) r⟩
  exact key n 0 [] news₀ (by omega) start
end
theorem ints_snoc {ys : List Value} {ns : List Int} {a : Int} {t : Tok} (h : IntsAre ys ns) : IntsAre (ys ++ [.int a t]) (ns ++ [a]) := by
  induction h with
  | nil => exact .cons _ _ .nil
  | cons n t h ih => exact .cons _ _ ih
theorem map_range_succ (f : Nat → Int) (i : Nat) : (List.range i).map f ++ [f i] = (List.range (i + 1)).map f := by
  rw [List.range_succ, List.map_append]; rfl
section
variable {prog : Program} {w : World} {A : Around} {E : Value → Shared → Prop} {s : Shared} {env : Env} {h₀ : Heap} {target : Expr} {body : List Stmt} {Q : Flow → Shared → Prop}
theorem letGo_rangeiter {I : Addr} {a b c : Int} {v : Value} {Q' : Unit → Shared → Prop} {s' : Shared} (hit : IsRangeIter s'.heap I a b c) (h : Q' () s') :
    wpAny (model prog w) A (letOwnedTupleGo target (.ref I) v) Q' E s' := by
  have hit' : s'.heap.get? I = some _ := hit
  unfold letOwnedTupleGo
  cases target <;> first
    | exact wpAny_pure h
    | (cases v <;> first
        | exact wpAny_pure h
        | (refine wpAny_bind (wpAny_load hit' ?_)
           exact wpAny_pure h))
/-- the turns of a range of three, one by one, for any target -/
theorem iter_range3T {r : Addr} {t₀ u₀ v₀ : Tok} {m₀ : Str → Option Value} {news : List (Addr × Obj)}
    (hh : A.handled = none) (hr : IsRange s.heap r 0 3 1 t₀ u₀ v₀) (F : Fr h₀ env.locals s.heap m₀) (N : News h₀ env.locals s.heap news)
    (rest₀ : ∀ I : Addr, (∀ p ∈ news, p.1 < I) → ItemsRest prog w A E h₀ env target body Q s [(I, "range_iterator")] [] [.tok (fun t => .int 0 t), .tok (fun t => .int 1 t), .tok (fun t => .int 2 t)] m₀ news) :
    wpAny (model prog w) A (pyIter (.ref r)) (fun it s₂ => TurnsAt prog w A h₀ env target body Q E it s₂) E s := by
  refine wpAny_pyIter_range hr (by first | decide | rfl) ?_
  refine ktu_core (tk0 := s.toks) (keep := []) (n := 3) (KTurns.ofWalks (Walks.range hh s.heap.objs.size 0 1 3).bound fun i v s Q E st q => letGo_rangeiter st q) rfl (fun i v h hp => ?_) (fun i h st => ?_) (fun b hb => ?_) (fun b hb => by simpa using hb) (fun b hb => ?_) ?_ (fun p hp hI => ?_) ?_ (F.push _) (fun p hp => ⟨Heap.get?_push_of_some _ (N p hp).1, (N p hp).2⟩) trivial (rest₀ _ fun p hp => Heap.lt_size (N p hp).1)
  · obtain ⟨hi, t, rfl⟩ := hp
    rcases (show i = 0 ∨ i = 1 ∨ i = 2 by omega) with rfl | rfl | rfl
    · exact ⟨_, rfl, t, rfl⟩
    · exact ⟨_, rfl, t, rfl⟩
    · exact ⟨_, rfl, t, rfl⟩
  · exact ⟨[(s.heap.objs.size, _)], ⟨⟨rfl, rfl⟩, trivial⟩, fun p hp => by rw [List.mem_singleton.mp hp]; exact st⟩
  · have hb' : b = s.heap.objs.size := by simpa using hb
    rw [hb']
    exact ⟨List.mem_cons_self .., next_is_new F⟩
  · have hb' : b = s.heap.objs.size := by simpa using hb
    exact .inl (by simp [hb'])
  · intro hI
    exact absurd F.ns.lt ((List.mem_singleton.mp hI) ▸ Nat.lt_irrefl _)
  · exact absurd (Heap.lt_size (N p hp).1) ((List.mem_singleton.mp hI) ▸ Nat.lt_irrefl _)
  · exact Heap.get?_push_size _ rfl
end
section
variable {prog : Program} {w : World} {A : Around} {s : Shared} {h₀ : Heap} {L : Addr} {m : Str → Option Value} {env : Env} {elt : Expr} {x : Str} {scope : Scope} {cl : List (Str × Addr)} {S : List (Addr × Obj) → Prop} {P : Nat → Value → Prop} {Fin : List Value → List (Addr × Obj) → Prop}
/-- a comprehension whose element only reads -/
theorem comp_ind0 {n : Nat} {news₀ : List (Addr × Obj)} (J : Nat → List Value → Prop) (hS : S news₀) (start : J 0 [])
    (step : ∀ i ys v I oI C oC D m₂ h tk (E' : Value → Shared → Prop), i < n → J i ys → P i v → LCg.NsObj oC m₂ → m₂ x = some v → Fr h₀ L h m → News h₀ L h ((I, oI) :: (C, oC) :: (D, LCg.lst ys) :: news₀) → LCg.Off3 I C D news₀ → ((@Ne Nat I C) ∧ (@Ne Nat I D) ∧ (@Ne Nat C D)) →
      wpAny (model prog w) A (eval elt (compEnvC scope cl C env)) (LCg.CompEnd h₀ L m { s with heap := h, toks := tk } I oI C oC D (LCg.lst ys) S (fun y news' => (∀ q ∈ news₀, q ∈ news') ∧ J (i + 1) (ys ++ [y]))) E' { s with heap := h, toks := tk })
    (fin : ∀ ys, J n ys → Fin ys news₀) : LCg.CompRest prog w A h₀ L m env elt x scope cl s S P Fin n 0 [] news₀ := by
  refine comp_ind (fun i ys news => news = news₀ ∧ J i ys) ⟨rfl, start⟩ ?_ (fun ys news j => j.1 ▸ fin ys j.2)
  rintro i ys news v I oI C oC D m₂ h tk E' hi ⟨rfl, j⟩ hp hc hx F N off ne
  refine wpAny_mono (step i ys v I oI C oC D m₂ h tk E' hi j hp hc hx F N off ne) (fun y s₂ p => ?_) fun _ _ e => e
  obtain ⟨h', tk', news', e', F', N', off', _, sub, j'⟩ := p
  refine ⟨h', tk', news, e', F', ?_, LCg.Off3.of fun q hq => LCg.Off3.mem off' q (sub q hq), hS, rfl, j'⟩
  refine List.forall_mem_cons.mpr ⟨N' _ (.head _), List.forall_mem_cons.mpr ⟨N' _ (.tail _ (.head _)), List.forall_mem_cons.mpr ⟨N' _ (.tail _ (.tail _ (.head _))), fun q hq => N' q (.tail _ (.tail _ (.tail _ (sub q hq))))⟩⟩⟩
end
local macro_rules | `(tactic| walk_at "getMethod ref") => `(tactic| (k_here; (with_reducible show wpAny _ _ (getMethod (Value.ref _) (PySem.Str.ofString "index") _) _ _ _); k_dflt (refine' b3_method ?F ?o PySem.F.slot_tuple_index PySem.F.type_tuple_index ?_; (case F => k_asm); (case o => assumption))))
local macro_rules | `(tactic| walk_at "call builtin:tuple.index") => `(tactic| (k_here; k_dflt (refine' b3_index ?F ?o ?P ?b0 ?b1 ?_; (case F => k_asm); (case o => assumption); (case P => first | assumption | exact (by assumption : ∀ i : Nat, i < _ → Pm _ _ _) _ (by assumption)); (case b0 => first | omega | exact rk_lo _ _ _ _ | exact Pm.pk_lo (by assumption) _); (case b1 => first | omega | exact rk_hi _ _ _ _ | exact Pm.pk_hi (by assumption) _))))
local macro_rules | `(tactic| walk_at "subscriptTail") => `(tactic| (k_here; (with_reducible show wpAny _ _ (subscriptTail _ _ (Value.ref _) (Value.int _ _)) _ _ _); k_dflt (refine' b3_item ?F ?o ?b0 ?b1 ?_ ?hs; (case F => k_asm); (case o => first | assumption | exact Or.inl (by assumption)); (case b0 | b1 => omega); (case hs => with_unfolding_all rfl); intro t9)))
theorem min_is {f : Nat → Int} {n : Nat} {R M : Int} (h1 : ∃ i, i < n ∧ R = f i) (h2 : ∀ i, i < n → R ≤ f i) (hM : M ∈ (List.range n).map f) (hm : ∀ a, a ∈ (List.range n).map f → M ≤ a) : R = M := by
  obtain ⟨i, hi, e⟩ := h1
  obtain ⟨j, hj, e'⟩ := List.mem_map.mp hM
  have a1 := h2 j (List.mem_range.mp hj)
  have a2 := hm (f i) (List.mem_map_of_mem (List.mem_range.mpr hi))
  omega
theorem max_is {f : Nat → Int} {n : Nat} {R M : Int} (h1 : ∃ i, i < n ∧ R = f i) (h2 : ∀ i, i < n → f i ≤ R) (hM : M ∈ (List.range n).map f) (hm : ∀ a, a ∈ (List.range n).map f → a ≤ M) : R = M := by
  obtain ⟨i, hi, e⟩ := h1
  obtain ⟨j, hj, e'⟩ := List.mem_map.mp hM
  have a1 := h2 j (List.mem_range.mp hj)
  have a2 := hm (f i) (List.mem_map_of_mem (List.mem_range.mpr hi))
  omega
section
local macro_rules | `(tactic| k_ne) => `(tactic| (refine neN ?_; (try dsimp only); first | assumption | omega)) -- here
local macro_rules | `(tactic| walk_at "CompSrc") => `(tactic| refine Halt.mk ?_) -- here
local macro_rules | `(tactic| walk_at "exec For Name Call cons nil") => `(tactic| (k_here; (rename Fr _ _ _ _ => lF'); (with_unfolding_all refine' For_turns lF' ?_; k_whole))) -- here
local macro_rules | `(tactic| walk_at "pyIter ref") => `(tactic| (k_here; k_dflt (refine' iter_range3T ?hh ?r ?F ?N ?_; (case hh => exact rfl); (case r => assumption); (case F | N => k_asm)); intro i' l1; (try k_lt l1))) -- here
theorem ends_best (w : World) {mean : ExcName → Option Value} {mg mb : Str → Option Value} {hb : Heap} (KX : (HK w.params).In hb) (T : Top VW LL mean mg mb hb)
    (s : Shared) (xb : Ext hb s.heap) (pa ho oa a0 a1 a2 : Addr) (n : Nat) (its : Array Value) (P : Nat → Int → Int) (p : Int → Int) (O : Int → Int → Int)
    (hp : S3At s.heap pa (p 0) (p 1) (p 2)) (hl : s.heap.IsList ho its) (hn : its.size = n) (hn1 : n ≤ 6) (hsz : its.size ≤ sizeLine) (hn0 : 0 < n)
    (hits : ∀ i v, its[i]? = some v → ∃ a, v = .ref a ∧ T3At s.heap a (P i 0) (P i 1) (P i 2)) (hP : ∀ i, i < n → Pm (P i 0) (P i 1) (P i 2))
    (hor : s.heap.IsList oa #[.ref a0, .ref a1, .ref a2]) (i0 : T3At s.heap a0 (O 0 0) (O 0 1) (O 0 2)) (i1 : T3At s.heap a1 (O 1 0) (O 1 1) (O 1 2)) (i2 : T3At s.heap a2 (O 2 0) (O 2 1) (O 2 2))
    (Pp : Pm (p 0) (p 1) (p 2)) (P0 : Pm (O 0 0) (O 0 1) (O 0 2)) (P1 : Pm (O 1 0) (O 1 1) (O 1 2)) (P2 : Pm (O 2 0) (O 2 1) (O 2 2))
    (hE : ∀ w : Int, 0 ≤ w → w ≤ 2 → (∃ i, i < n ∧ rk (O w 0) (O w 1) (O w 2) (pk w (p 0) (p 1) (p 2)) = rk (O w 0) (O w 1) (O w 2) (pk w (P i 0) (P i 1) (P i 2))) ∧
      (∀ i, i < n → rk (O w 0) (O w 1) (O w 2) (pk w (p 0) (p 1) (p 2)) ≤ rk (O w 0) (O w 1) (O w 2) (pk w (P i 0) (P i 1) (P i 2)))) (Q : Value → Shared → Prop)
    (hQ : ∀ h' tk, Ext s.heap h' → Q (.bool true) { s with heap := h', toks := tk }) :
    wpAny (model pw w) (Ar 800 3000) (call (.ref 260) [.ref pa, .ref ho, .ref oa, .bool true]) Q (fun _ _ => False) s := by
  refine wpAny_call ?_
  subst hn
  have hn0' : 0 < (List.range its.size).length := by rw [List.length_range]; exact hn0
  have hm : Mu hb s.heap [] := fun q hq => nomatch hq
  refine' enterCM (binds := [(Str.ofString "pairs", .ref pa), (Str.ofString "holding", .ref ho), (Str.ofString "orders", .ref oa), (Str.ofString "is_best", .bool true)]) _ ?KX ?T ?xb ?hm ?k6 ?k7 ?k8 ?k9 ?kB ?kD ?_ ?c2 ?c3 ?c4; (case KX => assumption); (case T => assumption); (case xb => assumption); (case hm => assumption); (case k6 => k_is); (case k7 => k_is); (case k8 => decide); (case k9 => exact BindsTo.of_eq rfl); (case kB => exact rfl); (case kD => decide +kernel); (case c2 => exact rfl); (case c3 => exact rfl); (case c4 => exact rfl)
  intro G L' h₁ tk cells hg KX' T' F' N' C' l1
  have hg' : G = s.heap := hg
  subst hg'
  clear l1
  k_cells C'
  simp only [List.cons_append, List.nil_append, List.append_nil] at N'
  k_steps
  refine Halt.of (LCg.CompSrc.base (by rfl) (by k_asm) (by k_asm) hl hsz ?_)
  intro g'
  refine comp_ind0 (J := fun i ys => IntsAre ys ((List.range i).map (fun k => rk (O 0 0) (O 0 1) (O 0 2) (pk 0 (P k 0) (P k 1) (P k 2))))) (Or.inl hl) .nil ?sp0 ?fi0
  case sp0 =>
    intro i ys v I oI C oC D m₂ h tk E' hi j hp' hc hx F N off ne
    obtain ⟨a, rfl, ha⟩ := hits i v hp'
    have PP := hP i hi
    simp only [LCg.Off3, and_true] at off
    obtain ⟨⟨p0, q0, r0⟩, ⟨p1, q1, r1⟩, p9, q9, r9⟩ := off
    k_steps
    · assumption
    rw [← map_range_succ]
    exact ints_snoc j
  intro ys hI
  k_steps
  all_goals (try (exfalso; exact absurd (min_is (hE 0 (by decide) (by decide)).1 (hE 0 (by decide) (by decide)).2 (by assumption) (by assumption)) (by assumption)))
  refine Halt.of (LCg.CompSrc.base (by rfl) (by k_asm) (by k_asm) hl hsz ?_)
  intro g'
  refine comp_ind0 (J := fun i ys => IntsAre ys ((List.range i).map (fun k => rk (O 1 0) (O 1 1) (O 1 2) (pk 1 (P k 0) (P k 1) (P k 2))))) (Or.inl hl) .nil ?sp1 ?fi1
  case sp1 =>
    intro i ys v I oI C oC D m₂ h tk E' hi j hp' hc hx F N off ne
    obtain ⟨a, rfl, ha⟩ := hits i v hp'
    have PP := hP i hi
    simp only [LCg.Off3, and_true] at off
    obtain ⟨⟨p0, q0, r0⟩, ⟨p1, q1, r1⟩, ⟨p2, q2, r2⟩, p9, q9, r9⟩ := off
    k_steps
    · assumption
    rw [← map_range_succ]
    exact ints_snoc j
  intro ys hI
  k_steps
  all_goals (try (exfalso; exact absurd (min_is (hE 1 (by decide) (by decide)).1 (hE 1 (by decide) (by decide)).2 (by assumption) (by assumption)) (by assumption)))
  refine Halt.of (LCg.CompSrc.base (by rfl) (by k_asm) (by k_asm) hl hsz ?_)
  intro g'
  refine comp_ind0 (J := fun i ys => IntsAre ys ((List.range i).map (fun k => rk (O 2 0) (O 2 1) (O 2 2) (pk 2 (P k 0) (P k 1) (P k 2))))) (Or.inl hl) .nil ?sp2 ?fi2
  case sp2 =>
    intro i ys v I oI C oC D m₂ h tk E' hi j hp' hc hx F N off ne
    obtain ⟨a, rfl, ha⟩ := hits i v hp'
    have PP := hP i hi
    simp only [LCg.Off3, and_true] at off
    obtain ⟨⟨p0, q0, r0⟩, ⟨p1, q1, r1⟩, ⟨p2, q2, r2⟩, ⟨p3, q3, r3⟩, p9, q9, r9⟩ := off
    k_steps
    · assumption
    rw [← map_range_succ]
    exact ints_snoc j
  intro ys hI
  k_steps
  all_goals (try (exfalso; exact absurd (min_is (hE 2 (by decide) (by decide)).1 (hE 2 (by decide) (by decide)).2 (by assumption) (by assumption)) (by assumption)))
  exact hQ _ _ (Fr.keep (by assumption))
theorem ends_worst (w : World) {mean : ExcName → Option Value} {mg mb : Str → Option Value} {hb : Heap} (KX : (HK w.params).In hb) (T : Top VW LL mean mg mb hb)
    (s : Shared) (xb : Ext hb s.heap) (pa ho oa a0 a1 a2 : Addr) (n : Nat) (its : Array Value) (P : Nat → Int → Int) (p : Int → Int) (O : Int → Int → Int)
    (hp : S3At s.heap pa (p 0) (p 1) (p 2)) (hl : s.heap.IsList ho its) (hn : its.size = n) (hn1 : n ≤ 6) (hsz : its.size ≤ sizeLine) (hn0 : 0 < n)
    (hits : ∀ i v, its[i]? = some v → ∃ a, v = .ref a ∧ T3At s.heap a (P i 0) (P i 1) (P i 2)) (hP : ∀ i, i < n → Pm (P i 0) (P i 1) (P i 2))
    (hor : s.heap.IsList oa #[.ref a0, .ref a1, .ref a2]) (i0 : T3At s.heap a0 (O 0 0) (O 0 1) (O 0 2)) (i1 : T3At s.heap a1 (O 1 0) (O 1 1) (O 1 2)) (i2 : T3At s.heap a2 (O 2 0) (O 2 1) (O 2 2))
    (Pp : Pm (p 0) (p 1) (p 2)) (P0 : Pm (O 0 0) (O 0 1) (O 0 2)) (P1 : Pm (O 1 0) (O 1 1) (O 1 2)) (P2 : Pm (O 2 0) (O 2 1) (O 2 2))
    (hE : ∀ w : Int, 0 ≤ w → w ≤ 2 → (∃ i, i < n ∧ rk (O w 0) (O w 1) (O w 2) (pk w (p 0) (p 1) (p 2)) = rk (O w 0) (O w 1) (O w 2) (pk w (P i 0) (P i 1) (P i 2))) ∧
      (∀ i, i < n → rk (O w 0) (O w 1) (O w 2) (pk w (P i 0) (P i 1) (P i 2)) ≤ rk (O w 0) (O w 1) (O w 2) (pk w (p 0) (p 1) (p 2)))) (Q : Value → Shared → Prop)
    (hQ : ∀ h' tk, Ext s.heap h' → Q (.bool true) { s with heap := h', toks := tk }) :
    wpAny (model pw w) (Ar 800 3000) (call (.ref 260) [.ref pa, .ref ho, .ref oa, .bool false]) Q (fun _ _ => False) s := by
  refine wpAny_call ?_
  subst hn
  have hn0' : 0 < (List.range its.size).length := by rw [List.length_range]; exact hn0
  have hm : Mu hb s.heap [] := fun q hq => nomatch hq
  refine' enterCM (binds := [(Str.ofString "pairs", .ref pa), (Str.ofString "holding", .ref ho), (Str.ofString "orders", .ref oa), (Str.ofString "is_best", .bool false)]) _ ?KX ?T ?xb ?hm ?k6 ?k7 ?k8 ?k9 ?kB ?kD ?_ ?c2 ?c3 ?c4; (case KX => assumption); (case T => assumption); (case xb => assumption); (case hm => assumption); (case k6 => k_is); (case k7 => k_is); (case k8 => decide); (case k9 => exact BindsTo.of_eq rfl); (case kB => exact rfl); (case kD => decide +kernel); (case c2 => exact rfl); (case c3 => exact rfl); (case c4 => exact rfl)
  intro G L' h₁ tk cells hg KX' T' F' N' C' l1
  have hg' : G = s.heap := hg
  subst hg'
  clear l1
  k_cells C'
  simp only [List.cons_append, List.nil_append, List.append_nil] at N'
  k_steps
  refine Halt.of (LCg.CompSrc.base (by rfl) (by k_asm) (by k_asm) hl hsz ?_)
  intro g'
  refine comp_ind0 (J := fun i ys => IntsAre ys ((List.range i).map (fun k => rk (O 0 0) (O 0 1) (O 0 2) (pk 0 (P k 0) (P k 1) (P k 2))))) (Or.inl hl) .nil ?sp0 ?fi0
  case sp0 =>
    intro i ys v I oI C oC D m₂ h tk E' hi j hp' hc hx F N off ne
    obtain ⟨a, rfl, ha⟩ := hits i v hp'
    have PP := hP i hi
    simp only [LCg.Off3, and_true] at off
    obtain ⟨⟨p0, q0, r0⟩, ⟨p1, q1, r1⟩, p9, q9, r9⟩ := off
    k_steps
    · assumption
    rw [← map_range_succ]
    exact ints_snoc j
  intro ys hI
  k_steps
  all_goals (try (exfalso; exact absurd (max_is (hE 0 (by decide) (by decide)).1 (hE 0 (by decide) (by decide)).2 (by assumption) (by assumption)) (by assumption)))
  refine Halt.of (LCg.CompSrc.base (by rfl) (by k_asm) (by k_asm) hl hsz ?_)
  intro g'
  refine comp_ind0 (J := fun i ys => IntsAre ys ((List.range i).map (fun k => rk (O 1 0) (O 1 1) (O 1 2) (pk 1 (P k 0) (P k 1) (P k 2))))) (Or.inl hl) .nil ?sp1 ?fi1
  case sp1 =>
    intro i ys v I oI C oC D m₂ h tk E' hi j hp' hc hx F N off ne
    obtain ⟨a, rfl, ha⟩ := hits i v hp'
    have PP := hP i hi
    simp only [LCg.Off3, and_true] at off
    obtain ⟨⟨p0, q0, r0⟩, ⟨p1, q1, r1⟩, ⟨p2, q2, r2⟩, p9, q9, r9⟩ := off
    k_steps
    · assumption
    rw [← map_range_succ]
    exact ints_snoc j
  intro ys hI
  k_steps
  all_goals (try (exfalso; exact absurd (max_is (hE 1 (by decide) (by decide)).1 (hE 1 (by decide) (by decide)).2 (by assumption) (by assumption)) (by assumption)))
  refine Halt.of (LCg.CompSrc.base (by rfl) (by k_asm) (by k_asm) hl hsz ?_)
  intro g'
  refine comp_ind0 (J := fun i ys => IntsAre ys ((List.range i).map (fun k => rk (O 2 0) (O 2 1) (O 2 2) (pk 2 (P k 0) (P k 1) (P k 2))))) (Or.inl hl) .nil ?sp2 ?fi2
  case sp2 =>
    intro i ys v I oI C oC D m₂ h tk E' hi j hp' hc hx F N off ne
    obtain ⟨a, rfl, ha⟩ := hits i v hp'
    have PP := hP i hi
    simp only [LCg.Off3, and_true] at off
    obtain ⟨⟨p0, q0, r0⟩, ⟨p1, q1, r1⟩, ⟨p2, q2, r2⟩, ⟨p3, q3, r3⟩, p9, q9, r9⟩ := off
    k_steps
    · assumption
    rw [← map_range_succ]
    exact ints_snoc j
  intro ys hI
  k_steps
  all_goals (try (exfalso; exact absurd (max_is (hE 2 (by decide) (by decide)).1 (hE 2 (by decide) (by decide)).2 (by assumption) (by assumption)) (by assumption)))
  exact hQ _ _ (Fr.keep (by assumption))
end
theorem place_line {w : World} {mean : ExcName → Option Value} {mg mb : Str → Option Value} {hb : Heap} {A : Around} {E : Value → Shared → Prop} {Q : Value → Shared → Prop} {s : Shared} {h₀ : Heap} {L : Addr} {m : Str → Option Value} {news : List (Addr × Obj)} {ws : Addr} {word : Str} {ns : List Int} {who other : Int} {t1 t2 t3 : Tok}
    (F : Fr h₀ L s.heap m) (N : News h₀ L s.heap news) (G : GetAt w hb h₀ ws word ns) (KX : (HK w.params).In hb) (T : Top VW LL mean mg mb hb) (xg : Ext hb h₀)
    (hh : A.handled = none) (e1 : A.depth ≤ 700) (e2 : A.units ≤ 2500)
    (h0 : 0 ≤ who) (h1 : who ≤ 2) (h : ∀ t h' tk, Fr h₀ L h' m → News h₀ L h' news → Q (.int (plc ns who other) t) { s with heap := h', toks := tk }) :
    wpAny (model pw w) A (call (.ref 241) [.ref ws, .str word t1, .int who t2, .int other t3]) Q E s := by
  refine rd_use (P := fun v => ∃ t, v = .int (plc ns who other) t) (place_walk w KX T s (Ext.trans xg F.keep) ws word ns who other t1 t2 t3 (G.keep F.keep) h0 h1 _ (fun r t h' tk e x => ⟨⟨t, by rw [e]⟩, h', tk, rfl, x⟩)) hh e1 e2 F N (fun v h' tk hv F' N' => ?_)
  obtain ⟨t, rfl⟩ := hv
  exact h t h' tk F' N'
theorem choice_line {w : World} {mean : ExcName → Option Value} {mg mb : Str → Option Value} {hb : Heap} {A : Around} {E : Value → Shared → Prop} {Q : Value → Shared → Prop} {s : Shared} {h₀ : Heap} {L : Addr} {m : Str → Option Value} {news : List (Addr × Obj)} {g : Obj → List (Addr × Obj)} {bag sl : Addr} {vs : List Value} {ns : List Int} {spot below : Int} {n n2 : Nat} {t1 t2 : Tok}
    (F : Fr h₀ L s.heap m) (N : News h₀ L s.heap news) (KX : (HK w.params).In hb) (T : Top VW LL mean mg mb hb) (xg : Ext hb h₀)
    (U : UpdF bag (listOf #[.ref sl, .int spot t1] n) news g) (hs : s.heap.get? sl = some (listOf vs.toArray n2)) (hsb : hb.get? sl = none) (hne : @Ne Nat sl bag) (hi : IntsAre vs ns) (hlen : ns.length < 2 ^ 62)
    (h0 : 0 ≤ spot) (h1 : spot < 1000) (hb0 : 1 ≤ below) (hb1 : below ≤ 6) (hh : A.handled = none) (e1 : A.depth ≤ 800) (e2 : A.units ≤ 3000)
    (h : ∀ k t h' tk t3, 0 ≤ k → k < below → Fr h₀ L h' m → News h₀ L h' (g (listOf #[.ref sl, .int (spot + 1) t3] n)) → Q (.int k t) { s with heap := h', toks := tk }) :
    wpAny (model pw w) A (call (.ref 227) [.ref bag, .int below t2]) Q E s := by
  have hbag : (bag, listOf #[.ref sl, .int spot t1] n) ∈ news := by
    obtain ⟨own, rest, rfl, _⟩ := U.split
    exact List.mem_append_right _ (.head _)
  have nb := N _ hbag
  refine md_use (P := fun v => ∃ k t, v = .int k t ∧ 0 ≤ k ∧ k < below) (O := fun o => ∃ t3, o = listOf #[.ref sl, .int (spot + 1) t3] n)
    (choice_walk w KX T s (Ext.trans xg F.keep) bag sl vs ns spot below n n2 t1 t2 (List.forall_mem_cons.mpr ⟨⟨nb.1, ?_⟩, List.forall_mem_cons.mpr ⟨⟨hs, hsb⟩, List.forall_mem_nil _⟩⟩) hne hi hlen h0 h1 hb0 hb1 _ (fun k t h' tk t3 k0 k1 x hg => ⟨⟨k, t, rfl, k0, k1⟩, _, ⟨t3, rfl⟩, h', tk, rfl, x, hg⟩)) hh e1 e2 F N U (fun v h' tk o' hv ho F' N' => ?_)
  · cases e : hb.get? bag with
    | none => rfl
    | some o => have z := nb.2.2; rw [xg _ _ e] at z; cases z
  · obtain ⟨k, t, rfl, k0, k1⟩ := hv
    obtain ⟨t3, rfl⟩ := ho
    exact h k t h' tk t3 k0 k1 F' N'
theorem mod_small {M : Model} {A : Around} {E : Value → Shared → Prop} {Q : Value → Shared → Prop} {s : Shared} {a b : Value} {x c : Int} (h0 : 0 ≤ x) (h1 : x < c) (h : wpAny M A (binaryOp .Mod a b) (fun v s' => (∃ t, v = .int (Int.fmod x c) t) ∧ ∃ tk, s' = { s with toks := tk }) E s)
    (k : ∀ t tk, Q (.int x t) { s with toks := tk }) : wpAny M A (binaryOp .Mod a b) Q E s := by
  refine wpAny_mono h (fun v s' q => ?_) fun _ _ e => e
  obtain ⟨⟨t, rfl⟩, tk, rfl⟩ := q
  have e : Int.fmod x c = x := Int.fmod_eq_of_lt h0 h1
  rw [e]
  exact k t tk
theorem GetAt.hide {w : World} {hb h : Heap} {ws bag sl : Addr} {word : Str} {ns : List Int} {spot : Int} {t : Tok} {n : Nat} (G : GetAt w hb h ws word ns) (hbag : h.get? bag = some (listOf #[.ref sl, .int spot t] n)) : GetAt w hb (hideAll h [bag]) ws word ns := by
  obtain ⟨kvs, wd, ar, g, gd, hl, it, es, es', m, m', n2, n3, oar, vs, t1, t2, t5, M, a1, a2, a3, a4, a5, a6, a7, a8, a9⟩ := G
  refine ⟨kvs, wd, ar, g, gd, hl, it, es, es', m, m', n2, n3, oar, vs, t1, t2, t5, ?_, a1, a2, a3, a4, a5, a6, a7, a8, a9⟩
  have key : ∀ {a : Addr} {o : Obj}, h.get? a = some o → o ≠ listOf #[.ref sl, .int spot t] n → (hideAll h [bag]).get? a = some o := fun {a o} e ne =>
    hideAll_get _ e (fun q => ne (by rw [List.mem_singleton.mp q, hbag] at e; exact (Option.some.inj e).symm))
  have len : vs.length = 9 := by rw [← a9]; exact IntsAre.length a8
  refine List.forall_mem_cons.mpr ⟨⟨key (M _ (.head _)).1 ?_, (M _ (.head _)).2⟩, List.forall_mem_cons.mpr ⟨⟨key (M _ (.tail _ (.head _))).1 ?_, (M _ (.tail _ (.head _))).2⟩, List.forall_mem_cons.mpr ⟨⟨key (M _ (.tail _ (.tail _ (.head _)))).1 ?_, (M _ (.tail _ (.tail _ (.head _)))).2⟩,
    List.forall_mem_cons.mpr ⟨⟨key (M _ (.tail _ (.tail _ (.tail _ (.head _))))).1 ?_, (M _ (.tail _ (.tail _ (.tail _ (.head _))))).2⟩, List.forall_mem_cons.mpr ⟨⟨key (M _ (.tail _ (.tail _ (.tail _ (.tail _ (.head _)))))).1 ?_, (M _ (.tail _ (.tail _ (.tail _ (.tail _ (.head _)))))).2⟩,
    List.forall_mem_cons.mpr ⟨⟨key (M _ (.tail _ (.tail _ (.tail _ (.tail _ (.tail _ (.head _))))))).1 ?_, (M _ (.tail _ (.tail _ (.tail _ (.tail _ (.tail _ (.head _))))))).2⟩, List.forall_mem_cons.mpr ⟨⟨key (M _ (.tail _ (.tail _ (.tail _ (.tail _ (.tail _ (.tail _ (.head _)))))))).1 ?_, (M _ (.tail _ (.tail _ (.tail _ (.tail _ (.tail _ (.tail _ (.head _)))))))).2⟩, List.forall_mem_nil _⟩⟩⟩⟩⟩⟩⟩
  · intro e; exact Data.noConfusion (congrArg Obj.data e)
  · intro e; exact Data.noConfusion (congrArg Obj.data e)
  · intro e
    obtain ⟨_, _, _, hd, _⟩ := a3
    exact Data.noConfusion (hd.symm.trans (congrArg Obj.data e))
  · intro e; exact Data.noConfusion (congrArg Obj.data e)
  · intro e; exact Data.noConfusion (congrArg Obj.data e)
  · intro e; cases e
  · intro e
    have e2 : vs.toArray = #[.ref sl, .int spot t] := by
      have := congrArg Obj.data e
      simpa using (Data.seq.inj this).1
    have := congrArg Array.size e2
    simp [len] at this
theorem mod_lit {prog : Program} {w : World} {A : Around} {E : Value → Shared → Prop} {Q : Value → Shared → Prop} {s : Shared} {x c : Int} {t u : Tok} (h0 : 0 ≤ x) (h1 : x < c) (h : Q (.int x s.toks) { s with toks := s.toks + 1 }) :
    wpAny (model prog w) A (binaryOp .Mod (.int x t) (.int c u)) Q E s := by
  refine mod_int' (by omega) ?_
  rw [Int.fmod_eq_of_lt h0 h1]
  exact h
local macro_rules | `(tactic| walk_at "call ref") => `(tactic| (k_here; (with_reducible show wpAny _ _ (call (Value.ref 241) _) _ _ _); k_dflt (refine' place_line ?F ?N ?G ?KX ?T ?x ?hh ?h1 ?h2 ?b0 ?b1 ?_; (case F | N => k_asm); (case G | KX | T | x => assumption); (case hh => exact rfl); (case h1 | h2 => exact Nat.le_of_ble_eq_true rfl); (case b0 | b1 => omega)); intro t' h' tk' F' N'))
local macro_rules | `(tactic| walk_at "call ref") => `(tactic| (k_here; (with_reducible show wpAny _ _ (call (Value.ref 227) _) _ _ _); k_dflt (refine' choice_line ?F ?N ?KX ?T ?x ?U ?hs ?hsb ?hne ?hi ?hl ?b0 ?b1 ?b2 ?b3 ?hh ?h1 ?h2 ?_; (case F | N => k_asm); (case U => k_updF); (case hs => first | exact Fr.keep (by k_asm) _ _ (by assumption) | exact News.get (by k_asm) (by k_mem)); (case hsb | KX | T | x | hne | hi | hl => assumption); (case b0 | b1 | b2 | b3 => omega); (case hh => exact rfl); (case h1 | h2 => exact Nat.le_of_ble_eq_true rfl)); intro k' t' h' tk' t3' b0' b1' F' N'; (try dsimp only at N')))
theorem rk_at {x y z j : Int} (P : Pm x y z) (h0 : 0 ≤ j) (h1 : j ≤ 2) : rk x y z (pk j x y z) = j := by
  obtain ⟨_, _, _, a, b, c⟩ := P
  unfold rk pk
  rcases three h0 h1 with rfl | rfl | rfl
  · simp
  · simp [a]
  · simp [b, c]
theorem rk_pk {x y z v : Int} (P : Pm x y z) (h0 : 0 ≤ v) (h1 : v ≤ 2) : pk (rk x y z v) x y z = v := by
  rcases P.hit h0 h1 with rfl | rfl | rfl
  · simp [rk, pk]
  · have : x ≠ y := P.2.2.2.1
    simp [rk, pk, this]
  · have a : x ≠ z := P.2.2.2.2.1
    have b : y ≠ z := P.2.2.2.2.2
    simp [rk, pk, a, b]
theorem rk_inj {x y z v v' : Int} (P : Pm x y z) (h0 : 0 ≤ v) (h1 : v ≤ 2) (h0' : 0 ≤ v') (h1' : v' ≤ 2) (e : rk x y z v = rk x y z v') : v = v' := by
  have a := rk_pk P h0 h1
  rw [e, rk_pk P h0' h1'] at a
  exact a.symm
theorem pm_rk {x y z : Int} (P : Pm x y z) : Pm (rk x y z 0) (rk x y z 1) (rk x y z 2) := by
  refine ⟨⟨rk_lo _ _ _ _, rk_hi _ _ _ _⟩, ⟨rk_lo _ _ _ _, rk_hi _ _ _ _⟩, ⟨rk_lo _ _ _ _, rk_hi _ _ _ _⟩, fun e => ?_, fun e => ?_, fun e => ?_⟩
  · exact absurd (rk_inj P (by decide) (by decide) (by decide) (by decide) e) (by decide)
  · exact absurd (rk_inj P (by decide) (by decide) (by decide) (by decide) e) (by decide)
  · exact absurd (rk_inj P (by decide) (by decide) (by decide) (by decide) e) (by decide)
theorem pk_fn {α : Type} {f : Int → α} {i : Int} (h0 : 0 ≤ i) (h1 : i ≤ 2) : pk i (f 0) (f 1) (f 2) = f i := by
  rcases three h0 h1 with rfl | rfl | rfl <;> rfl
/-- the turned of the turned -/
abbrev R (S : Int → Int → Int) (w g : Int) : Int := rk (S w 0) (S w 1) (S w 2) g
def Pms (S : Int → Int → Int) : Prop := ∀ i, 0 ≤ i → i ≤ 2 → Pm (S i 0) (S i 1) (S i 2)
def Pmf (q : Int → Int) : Prop := Pm (q 0) (q 1) (q 2)
structure Inv (S B : Int → Int → Int) (H P : Int → Int) (F : Int → Prop) (a : Int) : Prop where
  rng : ∀ w, 0 ≤ w → w ≤ 2 → 0 ≤ P w ∧ P w ≤ 3
  sum : P 0 + P 1 + P 2 = a
  frD : ∀ w, F w → 0 ≤ w ∧ w ≤ 2
  free : ∀ w, 0 ≤ w → w ≤ 2 → (F w ↔ ∀ g, 0 ≤ g → g ≤ 2 → H g ≠ w)
  held : ∀ g, 0 ≤ g → g ≤ 2 → H g = -1 ∨ (0 ≤ H g ∧ H g ≤ 2 ∧ R S (H g) g + 1 = P (H g))
  asked : ∀ w g, 0 ≤ w → w ≤ 2 → 0 ≤ g → g ≤ 2 → R S w g < P w → 0 ≤ H g ∧ R B g (H g) ≤ R B g w
  rej : ∀ q, Pmf q → Stable S B q → ∀ w g, 0 ≤ w → w ≤ 2 → 0 ≤ g → g ≤ 2 → R S w g < P w → H g ≠ w → q w ≠ g
def upd (f : Int → Int) (a v : Int) : Int → Int := fun x => if x = a then v else f x
theorem upd_same (f : Int → Int) (a v : Int) : upd f a v a = v := if_pos rfl
theorem upd_other {f : Int → Int} {a v x : Int} (h : x ≠ a) : upd f a v x = f x := if_neg h
section
variable {S B : Int → Int → Int} {H P : Int → Int} {F : Int → Prop} {a : Int}
theorem inv_start : Inv S B (fun _ => -1) (fun _ => 0) (fun w => 0 ≤ w ∧ w ≤ 2) 0 where
  rng := fun _ _ _ => ⟨by decide, by decide⟩
  sum := rfl
  frD := fun _ h => h
  free := fun w h0 h1 => ⟨fun _ g _ _ e => by omega, fun _ => ⟨h0, h1⟩⟩
  held := fun _ _ _ => .inl rfl
  asked := fun w g _ _ _ _ h => absurd h (by have := rk_lo (S w 0) (S w 1) (S w 2) g; show ¬ rk _ _ _ _ < 0; omega)
  rej := fun q _ _ w g _ _ _ _ h => absurd h (by have := rk_lo (S w 0) (S w 1) (S w 2) g; show ¬ rk _ _ _ _ < 0; omega)
/-- who is held has one holder -/
theorem Inv.one (I : Inv S B H P F a) (pS : Pms S) {g g' w : Int} (g0 : 0 ≤ g) (g1 : g ≤ 2) (g0' : 0 ≤ g') (g1' : g' ≤ 2) (w0 : 0 ≤ w) (w1 : w ≤ 2) (e : H g = w) (e' : H g' = w) : g = g' := by
  rcases I.held g g0 g1 with h | ⟨_, _, h⟩
  · omega
  rcases I.held g' g0' g1' with h' | ⟨_, _, h'⟩
  · omega
  rw [e] at h
  rw [e'] at h'
  exact rk_inj (pS w w0 w1) g0 g1 g0' g1' (by have h2 : R S w g = R S w g' := by omega
                                              exact h2)
/-- a free one has not asked all -/
theorem Inv.more (I : Inv S B H P F a) (pS : Pms S) {w : Int} (hw : F w) : P w < 3 := by
  obtain ⟨w0, w1⟩ := I.frD w hw
  have r := I.rng w w0 w1
  refine Int.not_le.mp fun h3 => ?_
  have nf := (I.free w w0 w1).mp hw
  have as : ∀ g, 0 ≤ g → g ≤ 2 → 0 ≤ H g ∧ H g ≤ 2 ∧ H g ≠ w := fun g g0 g1 => by
    have := rk_hi (S w 0) (S w 1) (S w 2) g
    have h1 := (I.asked w g w0 w1 g0 g1 (by show rk _ _ _ _ < _; omega)).1
    rcases I.held g g0 g1 with h | h
    · omega
    · exact ⟨h.1, h.2.1, nf g g0 g1⟩
  have a0 := as 0 (by decide) (by decide)
  have a1 := as 1 (by decide) (by decide)
  have a2 := as 2 (by decide) (by decide)
  have n01 : H 0 ≠ H 1 := fun e => absurd (I.one pS (g := 0) (g' := 1) (by decide) (by decide) (by decide) (by decide) a0.1 a0.2.1 rfl e.symm) (by decide)
  have n02 : H 0 ≠ H 2 := fun e => absurd (I.one pS (g := 0) (g' := 2) (by decide) (by decide) (by decide) (by decide) a0.1 a0.2.1 rfl e.symm) (by decide)
  have n12 : H 1 ≠ H 2 := fun e => absurd (I.one pS (g := 1) (g' := 2) (by decide) (by decide) (by decide) (by decide) a1.1 a1.2.1 rfl e.symm) (by decide)
  omega
theorem upd_sum {who : Int} (w0 : 0 ≤ who) (w1 : who ≤ 2) (h : P 0 + P 1 + P 2 = a) : upd P who (P who + 1) 0 + upd P who (P who + 1) 1 + upd P who (P who + 1) 2 = a + 1 := by
  rcases three w0 w1 with rfl | rfl | rfl <;> simp [upd] <;> omega
end
section
variable {S B : Int → Int → Int} {H P : Int → Int} {F : Int → Prop} {a : Int}
/-- the facts of an ask -/
structure Ask (S B : Int → Int → Int) (H P : Int → Int) (F : Int → Prop) (who goal : Int) : Prop where
  fr : F who
  w0 : 0 ≤ who
  w1 : who ≤ 2
  g0 : 0 ≤ goal
  g1 : goal ≤ 2
  rk : R S who goal = P who
theorem Inv.ask (I : Inv S B H P F a) (pS : Pms S) {who : Int} (hw : F who) : Ask S B H P F who (S who (P who)) := by
  obtain ⟨w0, w1⟩ := I.frD who hw
  have h3 := I.more pS hw
  have h0 := (I.rng who w0 w1).1
  have e : pk (P who) (S who 0) (S who 1) (S who 2) = S who (P who) := pk_fn (f := S who) h0 (by omega)
  have p := pS who w0 w1
  exact ⟨hw, w0, w1, e ▸ p.pk_lo _, e ▸ p.pk_hi _, by rw [← e]; exact rk_at p h0 (by omega)⟩
theorem Inv.rngU (I : Inv S B H P F a) (pS : Pms S) {who goal : Int} (k : Ask S B H P F who goal) : ∀ w, 0 ≤ w → w ≤ 2 → 0 ≤ upd P who (P who + 1) w ∧ upd P who (P who + 1) w ≤ 3 := fun w w0 w1 => by
  have h3 := I.more pS k.fr
  have r := I.rng who k.w0 k.w1
  by_cases e : w = who
  · subst e; rw [upd_same]; omega
  · rw [upd_other e]; exact I.rng w w0 w1
/-- what was asked, told by the one who asks -/
theorem Inv.lt (k : Ask S B H P F who goal) (pS : Pms S) {w g : Int} (g0 : 0 ≤ g) (g1 : g ≤ 2) (h : R S w g < upd P who (P who + 1) w) : R S w g < P w ∨ (w = who ∧ g = goal) := by
  by_cases e : w = who
  · subst e
    rw [upd_same] at h
    by_cases e2 : R S w g = P w
    · exact .inr ⟨rfl, rk_inj (pS w k.w0 k.w1) g0 g1 k.g0 k.g1 (e2.trans k.rk.symm)⟩
    · exact .inl (by omega)
  · rw [upd_other e] at h
    exact .inl h
theorem Inv.ne (I : Inv S B H P F a) (k : Ask S B H P F who goal) {g : Int} (g0 : 0 ≤ g) (g1 : g ≤ 2) : H g ≠ who := (I.free who k.w0 k.w1).mp k.fr g g0 g1
theorem Inv.heldU (I : Inv S B H P F a) (k : Ask S B H P F who goal) : ∀ g, 0 ≤ g → g ≤ 2 → upd H goal who g = -1 ∨ (0 ≤ upd H goal who g ∧ upd H goal who g ≤ 2 ∧ R S (upd H goal who g) g + 1 = upd P who (P who + 1) (upd H goal who g)) := fun g g0 g1 => by
  by_cases e : g = goal
  · subst e
    rw [upd_same, upd_same]
    exact .inr ⟨k.w0, k.w1, by rw [k.rk]⟩
  · rw [upd_other e, upd_other (I.ne k g0 g1)]
    exact I.held g g0 g1
/-- the asked one was free -/
theorem Inv.take (I : Inv S B H P F a) (pS : Pms S) (k : Ask S B H P F who goal) (old : H goal < 0) {F' : Int → Prop} (hF : ∀ w, F' w ↔ F w ∧ w ≠ who) :
    Inv S B (upd H goal who) (upd P who (P who + 1)) F' (a + 1) where
  rng := I.rngU pS k
  sum := upd_sum k.w0 k.w1 I.sum
  frD := fun w h => I.frD w ((hF w).mp h).1
  free := fun w w0 w1 => by
    rw [hF, I.free w w0 w1]
    constructor
    · rintro ⟨h, ne⟩ g g0 g1
      by_cases e : g = goal
      · subst e; rw [upd_same]; exact fun q => ne q.symm
      · rw [upd_other e]; exact h g g0 g1
    · intro h
      refine ⟨fun g g0 g1 => ?_, fun e => h goal k.g0 k.g1 (by rw [upd_same, e])⟩
      by_cases e : g = goal
      · subst e; omega
      · have := h g g0 g1; rw [upd_other e] at this; exact this
  held := I.heldU k
  asked := fun w g w0 w1 g0 g1 h => by
    rcases Inv.lt k pS g0 g1 h with h | ⟨rfl, rfl⟩
    · have h2 := I.asked w g w0 w1 g0 g1 h
      rw [upd_other (fun e => by subst e; omega)]
      exact h2
    · rw [upd_same]; exact ⟨k.w0, Int.le_refl _⟩
  rej := fun q pq sq w g w0 w1 g0 g1 h ne => by
    rcases Inv.lt k pS g0 g1 h with h | ⟨rfl, rfl⟩
    · have h2 := I.asked w g w0 w1 g0 g1 h
      have n : g ≠ goal := fun e => by subst e; omega
      rw [upd_other n] at ne
      exact I.rej q pq sq w g w0 w1 g0 g1 h ne
    · rw [upd_same] at ne; exact absurd rfl ne
/-- who blocks a pairing -/
theorem blocks {q : Int → Int} (pq : Pmf q) (sq : Stable S B q) {w g v : Int} (w0 : 0 ≤ w) (w1 : w ≤ 2) (g0 : 0 ≤ g) (g1 : g ≤ 2) (v0 : 0 ≤ v) (v1 : v ≤ 2) (hv : q v = g) (h1 : R S w g < R S w (q w)) (h2 : R B g w < R B g v) : False := by
  refine sq w g w0 w1 g0 g1 ⟨?_, ?_⟩
  · rw [pk_fn w0 w1]; exact h1
  · have e : rk (q 0) (q 1) (q 2) g = v := by rw [← hv, ← pk_fn (f := q) v0 v1]; exact rk_at pq v0 v1
    rw [e]; exact h2
theorem pmf_in {q : Int → Int} (pq : Pmf q) {w : Int} (w0 : 0 ≤ w) (w1 : w ≤ 2) : 0 ≤ q w ∧ q w ≤ 2 := by
  rw [← pk_fn (f := q) w0 w1]; exact ⟨pq.pk_lo w, pq.pk_hi w⟩
theorem pmf_inj {q : Int → Int} (pq : Pmf q) {w v : Int} (w0 : 0 ≤ w) (w1 : w ≤ 2) (v0 : 0 ≤ v) (v1 : v ≤ 2) (e : q w = q v) : w = v := by
  have a := rk_at pq w0 w1
  rw [pk_fn (f := q) w0 w1, e, ← pk_fn (f := q) v0 v1, rk_at pq v0 v1] at a
  exact a.symm
/-- the asked one likes the new one better -/
theorem Inv.swap (I : Inv S B H P F a) (pS : Pms S) (k : Ask S B H P F who goal) (old : 0 ≤ H goal) (bt : R B goal who < R B goal (H goal)) {F' : Int → Prop} (hF : ∀ w, F' w ↔ (F w ∧ w ≠ who) ∨ w = H goal) :
    Inv S B (upd H goal who) (upd P who (P who + 1)) F' (a + 1) := by
  have ho : 0 ≤ H goal ∧ H goal ≤ 2 ∧ R S (H goal) goal + 1 = P (H goal) := by
    rcases I.held goal k.g0 k.g1 with h | h
    · omega
    · exact h
  have nw : H goal ≠ who := I.ne k k.g0 k.g1
  exact {
    rng := I.rngU pS k
    sum := upd_sum k.w0 k.w1 I.sum
    frD := fun w h => ((hF w).mp h).elim (fun h => I.frD w h.1) (fun h => h ▸ ⟨ho.1, ho.2.1⟩)
    free := fun w w0 w1 => by
      rw [hF, I.free w w0 w1]
      constructor
      · rintro (⟨h, ne⟩ | rfl) g g0 g1
        · by_cases e : g = goal
          · subst e; rw [upd_same]; exact fun q => ne q.symm
          · rw [upd_other e]; exact h g g0 g1
        · by_cases e : g = goal
          · subst e; rw [upd_same]; exact fun q => nw q.symm
          · rw [upd_other e]; exact fun q => e (I.one pS g0 g1 k.g0 k.g1 w0 w1 q rfl)
      · intro h
        by_cases e1 : w = H goal
        · exact .inr e1
        · refine .inl ⟨fun g g0 g1 => ?_, fun e => h goal k.g0 k.g1 (by rw [upd_same, e])⟩
          by_cases e : g = goal
          · subst e; exact fun q => e1 q.symm
          · have := h g g0 g1; rw [upd_other e] at this; exact this
    held := I.heldU k
    asked := fun w g w0 w1 g0 g1 h => by
      rcases Inv.lt k pS g0 g1 h with h | ⟨rfl, rfl⟩
      · have h2 := I.asked w g w0 w1 g0 g1 h
        by_cases e : g = goal
        · subst e; rw [upd_same]; exact ⟨k.w0, by omega⟩
        · rw [upd_other e]; exact h2
      · rw [upd_same]; exact ⟨k.w0, Int.le_refl _⟩
    rej := fun q pq sq w g w0 w1 g0 g1 h ne => by
      rcases Inv.lt k pS g0 g1 h with h | ⟨rfl, rfl⟩
      · by_cases e : g = goal
        · subst e
          by_cases e1 : H g = w
          · intro hq
            subst e1
            have wi := pmf_in pq k.w0 k.w1
            refine blocks pq sq k.w0 k.w1 g0 g1 w0 w1 hq ?_ bt
            by_cases lt : R S who (q who) < P who
            · exact absurd rfl (I.rej q pq sq who (q who) k.w0 k.w1 wi.1 wi.2 lt (I.ne k wi.1 wi.2))
            · have ne2 : R S who g ≠ R S who (q who) := fun e => by
                have e3 := rk_inj (pS who k.w0 k.w1) g0 g1 wi.1 wi.2 e
                exact nw (pmf_inj pq w0 w1 k.w0 k.w1 (hq.trans e3))
              have := k.rk
              omega
          · exact I.rej q pq sq w g w0 w1 g0 g1 h e1
        · rw [upd_other e] at ne
          exact I.rej q pq sq w g w0 w1 g0 g1 h ne
      · rw [upd_same] at ne; exact absurd rfl ne }
/-- the asked one keeps the old one -/
theorem Inv.stay (I : Inv S B H P F a) (pS : Pms S) (pB : Pms B) (k : Ask S B H P F who goal) (old : 0 ≤ H goal) (bt : ¬ R B goal who < R B goal (H goal)) :
    Inv S B H (upd P who (P who + 1)) F (a + 1) := by
  have ho : 0 ≤ H goal ∧ H goal ≤ 2 ∧ R S (H goal) goal + 1 = P (H goal) := by
    rcases I.held goal k.g0 k.g1 with h | h
    · omega
    · exact h
  have nw : H goal ≠ who := I.ne k k.g0 k.g1
  exact {
    rng := I.rngU pS k
    sum := upd_sum k.w0 k.w1 I.sum
    frD := I.frD
    free := I.free
    held := fun g g0 g1 => by
      rcases I.held g g0 g1 with h | h
      · exact .inl h
      · rw [upd_other (I.ne k g0 g1)]; exact .inr h
    asked := fun w g w0 w1 g0 g1 h => by
      rcases Inv.lt k pS g0 g1 h with h | ⟨rfl, rfl⟩
      · exact I.asked w g w0 w1 g0 g1 h
      · exact ⟨old, Int.not_lt.mp bt⟩
    rej := fun q pq sq w g w0 w1 g0 g1 h ne => by
      rcases Inv.lt k pS g0 g1 h with h | ⟨rfl, rfl⟩
      · exact I.rej q pq sq w g w0 w1 g0 g1 h ne
      · intro hq
        have wi := pmf_in pq ho.1 ho.2.1
        have ne3 : g ≠ q (H g) := fun e => nw (pmf_inj pq ho.1 ho.2.1 w0 w1 (e.symm.trans hq.symm))
        refine blocks pq sq ho.1 ho.2.1 g0 g1 w0 w1 hq ?_ ?_
        · by_cases lt : R S (H g) (q (H g)) < P (H g)
          · by_cases e : H (q (H g)) = H g
            · exact absurd (I.one pS wi.1 wi.2 g0 g1 ho.1 ho.2.1 e rfl).symm ne3
            · exact absurd rfl (I.rej q pq sq (H g) (q (H g)) ho.1 ho.2.1 wi.1 wi.2 lt e)
          · omega
        · have ne2 : R B g (H g) ≠ R B g w := fun e => nw (rk_inj (pB g g0 g1) ho.1 ho.2.1 w0 w1 e)
          omega }
/-- what stands at the end: x, y, z hold the asked ones' partners -/
structure Good (S B : Int → Int → Int) (x y z : Int) (asks : Int) : Prop where
  pm : Pm x y z
  st : Stable S B (fun w => rk x y z w)
  best : ∀ q, Pmf q → Stable S B q → ∀ w, 0 ≤ w → w ≤ 2 → R S w (rk x y z w) ≤ R S w (q w)
  asks : asks = 3 + (R S 0 (rk x y z 0) + R S 1 (rk x y z 1) + R S 2 (rk x y z 2))
theorem Inv.good (I : Inv S B H P F a) (pS : Pms S) (pB : Pms B) (hF : ∀ w, ¬ F w) : Good S B (H 0) (H 1) (H 2) a := by
  have ex : ∀ w, 0 ≤ w → w ≤ 2 → H 0 = w ∨ H 1 = w ∨ H 2 = w := fun w w0 w1 => by
    refine Classical.byContradiction fun n => hF w ((I.free w w0 w1).mpr fun g g0 g1 e => n ?_)
    rcases three g0 g1 with rfl | rfl | rfl
    · exact .inl e
    · exact .inr (.inl e)
    · exact .inr (.inr e)
  have e0 := ex 0 (by decide) (by decide)
  have e1 := ex 1 (by decide) (by decide)
  have e2 := ex 2 (by decide) (by decide)
  have pm : Pmf H := by
    unfold Pmf Pm
    omega
  have at_ : ∀ w, 0 ≤ w → w ≤ 2 → H (rk (H 0) (H 1) (H 2) w) = w := fun w w0 w1 => by
    rw [← pk_fn (f := H) (rk_lo _ _ _ _) (rk_hi _ _ _ _)]; exact rk_pk pm w0 w1
  have back : ∀ g, 0 ≤ g → g ≤ 2 → rk (H 0) (H 1) (H 2) (H g) = g := fun g g0 g1 => by
    rw [← pk_fn (f := H) g0 g1]; exact rk_at pm g0 g1
  have pw : ∀ w, 0 ≤ w → w ≤ 2 → R S w (rk (H 0) (H 1) (H 2) w) + 1 = P w := fun w w0 w1 => by
    rcases I.held (rk (H 0) (H 1) (H 2) w) (rk_lo _ _ _ _) (rk_hi _ _ _ _) with h | ⟨_, _, h⟩
    · rw [at_ w w0 w1] at h; omega
    · rw [at_ w w0 w1] at h; exact h
  refine ⟨pm, ?_, ?_, ?_⟩
  · rintro w g w0 w1 g0 g1 ⟨h1, h2⟩
    have e : pk w (rk (H 0) (H 1) (H 2) 0) (rk (H 0) (H 1) (H 2) 1) (rk (H 0) (H 1) (H 2) 2) = rk (H 0) (H 1) (H 2) w := pk_fn (f := fun w => rk (H 0) (H 1) (H 2) w) w0 w1
    have hg : rk (rk (H 0) (H 1) (H 2) 0) (rk (H 0) (H 1) (H 2) 1) (rk (H 0) (H 1) (H 2) 2) g = H g := by
      have hi := pmf_in pm g0 g1
      have e3 : pk (H g) (rk (H 0) (H 1) (H 2) 0) (rk (H 0) (H 1) (H 2) 1) (rk (H 0) (H 1) (H 2) 2) = g := (pk_fn (f := fun w => rk (H 0) (H 1) (H 2) w) hi.1 hi.2).trans (back g g0 g1)
      have := rk_at (pm_rk pm) hi.1 hi.2
      rw [e3] at this
      exact this
    simp only [e] at h1
    simp only [hg] at h2
    have lt : R S w g < P w := by
      have := pw w w0 w1
      have h1' : R S w g < R S w (rk (H 0) (H 1) (H 2) w) := h1
      omega
    have h3 := (I.asked w g w0 w1 g0 g1 lt).2
    exact absurd h2 (Int.not_lt.mpr h3)
  · intro q pq sq w w0 w1
    refine Int.not_lt.mp fun lt => ?_
    have wi := pmf_in pq w0 w1
    have hp := pw w w0 w1
    by_cases e : H (q w) = w
    · have := back (q w) wi.1 wi.2
      rw [e] at this
      rw [this] at lt
      omega
    · exact I.rej q pq sq w (q w) w0 w1 wi.1 wi.2 (by omega) e rfl
  · have h0 := pw 0 (by decide) (by decide)
    have h1 := pw 1 (by decide) (by decide)
    have h2 := pw 2 (by decide) (by decide)
    have s := I.sum
    omega
theorem Inv.bound (I : Inv S B H P F a) : a ≤ 9 := by
  have h0 := I.rng 0 (by decide) (by decide)
  have h1 := I.rng 1 (by decide) (by decide)
  have h2 := I.rng 2 (by decide) (by decide)
  have s := I.sum
  omega
end
/-- the asking's state, in lists -/
def PSt (S B : Int → Int → Int) (nh np nf : List Int) (i : Int) : Prop :=
  nh.length = 3 ∧ np.length = 3 ∧ (nf.Nodup ∧ nf.length ≤ 3) ∧ ∃ H P : Int → Int, (∀ g, 0 ≤ g → g ≤ 2 → nh.getD g.toNat 0 = H g) ∧ (∀ w, 0 ≤ w → w ≤ 2 → np.getD w.toNat 0 = P w) ∧ Inv S B H P (fun w => w ∈ nf) i
theorem set_getD {l : List Int} {k g v : Int} (hl : l.length = 3) (k0 : 0 ≤ k) (k1 : k ≤ 2) (g0 : 0 ≤ g) (g1 : g ≤ 2) : (l.set k.toNat v).getD g.toNat 0 = if g = k then v else l.getD g.toNat 0 := by
  rw [List.getD_eq_getElem?_getD, List.getD_eq_getElem?_getD, List.getElem?_set]
  by_cases e : g = k
  · subst e
    rw [if_pos rfl, if_pos rfl, if_pos (by omega)]
    rfl
  · rw [if_neg (by omega), if_neg e]
theorem getD_mem {l : List Int} {k : Int} (k0 : 0 ≤ k) (k1 : k < l.length) : l.getD k.toNat 0 ∈ l := by
  have h : k.toNat < l.length := by omega
  rw [List.getD_eq_getElem?_getD, List.getElem?_eq_getElem h]
  exact List.getElem_mem h
section
variable {S B : Int → Int → Int} {nh np nf : List Int} {i : Int}
theorem PSt.start : PSt S B [-1, -1, -1] [0, 0, 0] [0, 1, 2] 0 := by
  refine ⟨rfl, rfl, ⟨by decide, by decide⟩, fun _ => -1, fun _ => 0, ?_, ?_, ?_⟩
  · intro g g0 g1
    rcases three g0 g1 with rfl | rfl | rfl <;> rfl
  · intro g g0 g1
    rcases three g0 g1 with rfl | rfl | rfl <;> rfl
  · have e : (fun w : Int => w ∈ ([0, 1, 2] : List Int)) = fun w => 0 ≤ w ∧ w ≤ 2 := by
      funext w
      simp only [List.mem_cons, List.mem_nil_iff, or_false, eq_iff_iff]
      omega
    rw [e]
    exact inv_start
theorem PSt.len (I : PSt S B nh np nf i) : nh.length = 3 ∧ np.length = 3 ∧ nf.length ≤ 3 := ⟨I.1, I.2.1, I.2.2.1.2⟩
theorem PSt.bound (I : PSt S B nh np nf i) : i ≤ 9 := let ⟨_, _, _, _, _, _, _, h⟩ := I; h.bound
theorem PSt.ask (I : PSt S B nh np nf i) (pS : Pms S) {k who : Int} (k0 : 0 ≤ k) (k1 : k < nf.length) (e : nf.getD k.toNat 0 = who) :
    (0 ≤ who ∧ who ≤ 2) ∧ (0 ≤ np.getD who.toNat 0 ∧ np.getD who.toNat 0 < 3) ∧ (0 ≤ S who (np.getD who.toNat 0) ∧ S who (np.getD who.toNat 0) ≤ 2) := by
  obtain ⟨_, _, _, H, P, eH, eP, I⟩ := I
  have hw : who ∈ nf := e ▸ getD_mem k0 k1
  have A := I.ask pS hw
  have h3 := I.more pS hw
  have r := I.rng who A.w0 A.w1
  rw [eP who A.w0 A.w1]
  exact ⟨⟨A.w0, A.w1⟩, ⟨r.1, h3⟩, A.g0, A.g1⟩
theorem PSt.old (I : PSt S B nh np nf i) {g : Int} (g0 : 0 ≤ g) (g1 : g ≤ 2) (h : ¬ nh.getD g.toNat 0 < 0) : 0 ≤ nh.getD g.toNat 0 ∧ nh.getD g.toNat 0 ≤ 2 := by
  obtain ⟨_, _, _, H, P, eH, eP, I⟩ := I
  rw [eH g g0 g1] at h ⊢
  rcases I.held g g0 g1 with h' | h'
  · omega
  · omega
theorem PSt.held (I : PSt S B nh np nf i) {g : Int} (g0 : 0 ≤ g) (g1 : g ≤ 2) : nh.getD g.toNat 0 = -1 ∨ (0 ≤ nh.getD g.toNat 0 ∧ nh.getD g.toNat 0 ≤ 2) := by
  obtain ⟨_, _, _, H, P, eH, eP, I⟩ := I
  rw [eH g g0 g1]
  rcases I.held g g0 g1 with h' | h'
  · exact .inl h'
  · exact .inr ⟨h'.1, h'.2.1⟩
theorem PSt.take (I : PSt S B nh np nf i) (pS : Pms S) {k who goal : Int} {nf' : List Int} (k0 : 0 ≤ k) (k1 : k < nf.length) (e : nf.getD k.toNat 0 = who) (eg : S who (np.getD who.toNat 0) = goal) (h : nh.getD goal.toNat 0 < 0)
    (hf : nf' = nf.take k.toNat ++ nf.drop (k.toNat + 1)) : PSt S B (nh.set goal.toNat who) (np.set who.toNat (np.getD who.toNat 0 + 1)) nf' (i + 1) := by
  obtain ⟨l1, l2, ⟨nd, ln⟩, H, P, eH, eP, I⟩ := I
  have hw : who ∈ nf := e ▸ getD_mem k0 k1
  have A := I.ask pS hw
  rw [eP who A.w0 A.w1] at eg ⊢
  subst eg
  have ek : nf = nf.take k.toNat ++ who :: nf.drop (k.toNat + 1) := by
    have hk : k.toNat < nf.length := by omega
    have h1 : nf[k.toNat] = who := by rw [← e, List.getD_eq_getElem?_getD, List.getElem?_eq_getElem hk]; rfl
    rw [← h1, ← List.drop_eq_getElem_cons hk, List.take_append_drop]
  have nd2 := nd
  rw [ek] at nd2
  have nd3 := List.nodup_append.mp nd2
  have nd4 := List.nodup_cons.mp nd3.2.1
  have mem : ∀ w, w ∈ nf' ↔ w ∈ nf ∧ w ≠ who := fun w => by
    rw [hf]
    constructor
    · intro hm
      rcases List.mem_append.mp hm with hm | hm
      · exact ⟨by rw [ek]; exact List.mem_append_left _ hm, fun q => nd3.2.2 w hm who (List.mem_cons_self ..) q⟩
      · exact ⟨by rw [ek]; exact List.mem_append_right _ (List.mem_cons_of_mem _ hm), fun q => nd4.1 (q ▸ hm)⟩
    · rintro ⟨hm, ne⟩
      rw [ek] at hm
      rcases List.mem_append.mp hm with hm | hm
      · exact List.mem_append_left _ hm
      · rcases List.mem_cons.mp hm with hm | hm
        · exact absurd hm ne
        · exact List.mem_append_right _ hm
  refine ⟨by rw [List.length_set, l1], by rw [List.length_set, l2], ⟨?_, by rw [hf, List.length_append, List.length_take, List.length_drop]; omega⟩, _, _, fun g g0 g1 => ?_, fun w w0 w1 => ?_, I.take pS A (by rw [← eH _ A.g0 A.g1]; exact h) mem⟩
  · rw [hf]
    exact List.nodup_append.mpr ⟨nd3.1, nd4.2, fun a ha b hb => nd3.2.2 a ha b (List.mem_cons_of_mem _ hb)⟩
  · rw [set_getD l1 A.g0 A.g1 g0 g1, eH g g0 g1]; rfl
  · rw [set_getD l2 A.w0 A.w1 w0 w1, eP w w0 w1]; rfl
theorem PSt.swap (I : PSt S B nh np nf i) (pS : Pms S) {k who goal old : Int} (k0 : 0 ≤ k) (k1 : k < nf.length) (e : nf.getD k.toNat 0 = who) (eg : S who (np.getD who.toNat 0) = goal) (eo : nh.getD goal.toNat 0 = old) (h : ¬ old < 0) (bt : R B goal who < R B goal old) :
    PSt S B (nh.set goal.toNat who) (np.set who.toNat (np.getD who.toNat 0 + 1)) (nf.set k.toNat old) (i + 1) := by
  obtain ⟨l1, l2, ⟨nd, ln⟩, H, P, eH, eP, I⟩ := I
  have hw : who ∈ nf := e ▸ getD_mem k0 k1
  have A := I.ask pS hw
  rw [eP who A.w0 A.w1] at eg ⊢
  subst eg
  have eo' := eH _ A.g0 A.g1
  rw [eo] at eo'
  subst eo'
  have hk : k.toNat < nf.length := by omega
  have h1 : nf[k.toNat] = who := by rw [← e, List.getD_eq_getElem?_getD, List.getElem?_eq_getElem hk]; rfl
  have ek : nf = nf.take k.toNat ++ who :: nf.drop (k.toNat + 1) := by
    rw [← h1, ← List.drop_eq_getElem_cons hk, List.take_append_drop]
  have es : nf.set k.toNat (H (S who (P who))) = nf.take k.toNat ++ H (S who (P who)) :: nf.drop (k.toNat + 1) := by
    rw [List.set_eq_take_append_cons_drop, if_pos hk]
  have nd2 := nd
  rw [ek] at nd2
  have nd3 := List.nodup_append.mp nd2
  have nd4 := List.nodup_cons.mp nd3.2.1
  have no : H (S who (P who)) ∉ nf := fun q => by
    have r := I.frD _ q
    exact (I.free _ r.1 r.2).mp q (S who (P who)) A.g0 A.g1 rfl
  have no2 : H (S who (P who)) ∉ nf.take k.toNat ∧ H (S who (P who)) ∉ nf.drop (k.toNat + 1) := ⟨fun q => no (by rw [ek]; exact List.mem_append_left _ q), fun q => no (by rw [ek]; exact List.mem_append_right _ (List.mem_cons_of_mem _ q))⟩
  have mem : ∀ w, w ∈ nf.set k.toNat (H (S who (P who))) ↔ (w ∈ nf ∧ w ≠ who) ∨ w = H (S who (P who)) := fun w => by
    rw [es]
    constructor
    · intro hm
      rcases List.mem_append.mp hm with hm | hm
      · exact .inl ⟨by rw [ek]; exact List.mem_append_left _ hm, fun q => nd3.2.2 w hm who (List.mem_cons_self ..) q⟩
      · rcases List.mem_cons.mp hm with hm | hm
        · exact .inr hm
        · exact .inl ⟨by rw [ek]; exact List.mem_append_right _ (List.mem_cons_of_mem _ hm), fun q => nd4.1 (q ▸ hm)⟩
    · rintro (⟨hm, ne⟩ | hm)
      · rw [ek] at hm
        rcases List.mem_append.mp hm with hm | hm
        · exact List.mem_append_left _ hm
        · rcases List.mem_cons.mp hm with hm | hm
          · exact absurd hm ne
          · exact List.mem_append_right _ (List.mem_cons_of_mem _ hm)
      · exact List.mem_append_right _ (hm ▸ List.mem_cons_self ..)
  refine ⟨by rw [List.length_set, l1], by rw [List.length_set, l2], ⟨?_, by rw [List.length_set]; exact ln⟩, _, _, fun g g0 g1 => ?_, fun w w0 w1 => ?_, I.swap pS A (by omega) bt mem⟩
  · rw [es]
    refine List.nodup_append.mpr ⟨nd3.1, List.nodup_cons.mpr ⟨no2.2, nd4.2⟩, fun a ha b hb => ?_⟩
    rcases List.mem_cons.mp hb with hb | hb
    · exact fun q => no2.1 (by rw [← hb, ← q]; exact ha)
    · exact nd3.2.2 a ha b (List.mem_cons_of_mem _ hb)
  · rw [set_getD l1 A.g0 A.g1 g0 g1, eH g g0 g1]; rfl
  · rw [set_getD l2 A.w0 A.w1 w0 w1, eP w w0 w1]; rfl
theorem PSt.stay (I : PSt S B nh np nf i) (pS : Pms S) (pB : Pms B) {k who goal old : Int} (k0 : 0 ≤ k) (k1 : k < nf.length) (e : nf.getD k.toNat 0 = who) (eg : S who (np.getD who.toNat 0) = goal) (eo : nh.getD goal.toNat 0 = old) (h : ¬ old < 0) (bt : ¬ R B goal who < R B goal old) :
    PSt S B nh (np.set who.toNat (np.getD who.toNat 0 + 1)) nf (i + 1) := by
  obtain ⟨l1, l2, ⟨nd, ln⟩, H, P, eH, eP, I⟩ := I
  have hw : who ∈ nf := e ▸ getD_mem k0 k1
  have A := I.ask pS hw
  rw [eP who A.w0 A.w1] at eg ⊢
  subst eg
  have eo' := eH _ A.g0 A.g1
  rw [eo] at eo'
  subst eo'
  refine ⟨l1, by rw [List.length_set, l2], ⟨nd, ln⟩, _, _, eH, fun w w0 w1 => ?_, I.stay pS pB A (by omega) bt⟩
  rw [set_getD l2 A.w0 A.w1 w0 w1, eP w w0 w1]; rfl
theorem PSt.good (I : PSt S B nh np nf i) (pS : Pms S) (pB : Pms B) (h : nf = []) : ∃ x y z, nh = [x, y, z] ∧ Good S B x y z i := by
  obtain ⟨l1, l2, ⟨nd, ln⟩, H, P, eH, eP, I⟩ := I
  subst h
  have g := I.good pS pB (fun w q => nomatch q)
  match nh, l1 with
  | [x, y, z], _ =>
    refine ⟨x, y, z, rfl, ?_⟩
    have e0 : x = H 0 := eH 0 (by decide) (by decide)
    have e1 : y = H 1 := eH 1 (by decide) (by decide)
    have e2 : z = H 2 := eH 2 (by decide) (by decide)
    rw [e0, e1, e2]
    exact g
end
theorem plc_rk {ns : List Int} {B : Int → Int → Int} {g v : Int} (hB : ∀ i j, 0 ≤ i → i ≤ 2 → 0 ≤ j → j ≤ 2 → ns.getD (3 * i + j).toNat 0 = B i j) (pB : Pms B) (g0 : 0 ≤ g) (g1 : g ≤ 2) (v0 : 0 ≤ v) (v1 : v ≤ 2) : plc ns g v = R B g v := by
  unfold plc
  have h0 := hB g 0 g0 g1 (by decide) (by decide)
  rw [Int.add_zero] at h0
  rw [h0, hB g 1 g0 g1 (by decide) (by decide), hB g 2 g0 g1 (by decide) (by decide)]
  show _ = rk _ _ _ _
  unfold rk
  rcases (pB g g0 g1).hit v0 v1 with h | h | h
  · rw [if_pos h, if_pos h]
  · by_cases h1 : B g 0 = v
    · rw [if_pos h1, if_pos h1]
    · rw [if_neg h1, if_neg h1, if_pos h, if_pos h]
  · by_cases h1 : B g 0 = v
    · rw [if_pos h1, if_pos h1]
    · rw [if_neg h1, if_neg h1]
      by_cases h2 : B g 1 = v
      · rw [if_pos h2, if_pos h2]
      · rw [if_neg h2, if_neg h2, if_pos h]
def AtP (s : Shared) (G : Heap) (L : Addr) (m : Option Value → Str → Option Value) (news : Int → Tok → List (Addr × Obj)) (len : Nat) (sp : Int) (fl : Flow) (s' : Shared) : Prop :=
  fl = .next ∧ ∃ h' tk k tt sp' t', s' = { s with heap := h', toks := tk } ∧ Fr G L h' (m (some (.int k tt))) ∧ News G L h' (news sp' t') ∧ 0 ≤ k ∧ k < len ∧ sp ≤ sp' ∧ sp' ≤ sp + 1
section
local macro_rules | `(tactic| walk_at "RangeRest") => `(tactic| refine Halt.mk ?_) -- here
local macro_rules | `(tactic| walk_at "UnrEnd") => `(tactic| refine Halt.mk ?_) -- here
local macro_rules | `(tactic| walk_at "exec Assign cons IfExp") => `(tactic| ((fail_if_success (with_reducible show wpAny _ _ _ (AtP _ _ _ _ _ _ _) _ _)); refine Halt.mk ?_)) -- here
local macro_rules | `(tactic| walk_at "binaryOp Mod int int") => `(tactic| (k_here; k_dflt (refine' mod_lit ?a ?b ?_; (case a | b => omega)))) -- here
local macro_rules | `(tactic| walk_at "pyIter ref") => `(tactic| (k_here; (rename IsRange _ _ _ _ _ _ _ _ => r'); (rename Fr _ _ _ _ => lF'); (rename News _ _ _ _ => lN'); (with_unfolding_all refine iter_rangeUnr (n := 10) (by rfl) r' (by first | decide | rfl) (by first | decide | rfl) lF' lN' ?_); clear lF' lN'; intro i' l1; (try k_lt l1))) -- here
abbrev cmP (v1 v2 v3 v4 v5 : Option Value) (f pl hd : Addr) (bs : List (Str × Value)) : Str → Option Value := (fun y => if y = Str.ofString "old" then v1 else if y = Str.ofString "goal" then v2 else if y = Str.ofString "who" then v3 else if y = Str.ofString "at" then v4 else if y = Str.ofString "asks" then v5 else if y = Str.ofString "free" then some (.ref f) else if y = Str.ofString "places" then some (.ref pl) else if y = Str.ofString "held" then some (.ref hd) else List.lookup y bs.reverse)
theorem cmP_asks {v1 v2 v3 v4 v5 v : Option Value} {f pl hd : Addr} {bs : List (Str × Value)} (y : Str) : (if y = Str.ofString "asks" then v else cmP v1 v2 v3 v4 v5 f pl hd bs y) = cmP v1 v2 v3 v4 v f pl hd bs y := by
  by_cases e0 : y = Str.ofString "old"
  · subst e0; rfl
  by_cases e1 : y = Str.ofString "goal"
  · subst e1; rfl
  by_cases e2 : y = Str.ofString "who"
  · subst e2; rfl
  by_cases e3 : y = Str.ofString "at"
  · subst e3; rfl
  by_cases e4 : y = Str.ofString "asks"
  · subst e4; rfl
  by_cases e5 : y = Str.ofString "free"
  · subst e5; rfl
  by_cases e6 : y = Str.ofString "places"
  · subst e6; rfl
  by_cases e7 : y = Str.ofString "held"
  · subst e7; rfl
  simp only [if_neg e0, if_neg e1, if_neg e2, if_neg e3, if_neg e4, if_neg e5, if_neg e6, if_neg e7]
/-- the loop's state in the ledger and in the names -/
def PJ (S B : Int → Int → Int) (ws bag sl hd pl iO : Addr) (mine theirs : Str) (how spot : Int) (t2 t3 t4 : Tok) (n : Nat) (i : Nat) (m : Str → Option Value) (news : List (Addr × Obj)) : Prop :=
  ∃ (f : Addr) (hv pv fv : List Value) (nh np nf : List Int) (c1 c2 c3 : Nat) (spot' : Int) (t' : Tok) (v1 v2 v3 v4 v5 : Option Value),
    (∀ q ∈ [(f, listOf fv.toArray c3), (pl, listOf pv.toArray c2), (hd, listOf hv.toArray c1), (bag, listOf #[.ref sl, .int spot' t'] n)], q ∈ news) ∧ (∀ y, m y = cmP v1 v2 v3 v4 v5 f pl hd [(Str.ofString "world", Value.ref ws), (Str.ofString "mine", Value.str mine t2), (Str.ofString "theirs", Value.str theirs t3), (Str.ofString "how", Value.int how t4), (Str.ofString "bag", Value.ref bag)] y) ∧ (@Ne Nat f hd ∧ @Ne Nat f pl ∧ @Ne Nat f bag ∧ @Ne Nat f iO) ∧
    IntsAre hv nh ∧ IntsAre pv np ∧ IntsAre fv nf ∧ (spot ≤ spot' ∧ spot' ≤ spot + i) ∧ PSt S B nh np nf i
theorem PJ.start {S B : Int → Int → Int} {ws bag sl hd pl iO f : Addr} {mine theirs : Str} {how spot : Int} {t1 t2 t3 t4 x y z : Tok} {n c1 c2 c3 : Nat} {m : Str → Option Value} {news : List (Addr × Obj)} {hv pv : List Value}
    (ih : IntsAre hv [-1, -1, -1]) (ip : IntsAre pv [0, 0, 0]) (sub : ∀ q ∈ [(f, listOf #[.int 0 x, .int 1 y, .int 2 z] c3), (pl, listOf pv.toArray c2), (hd, listOf hv.toArray c1), (bag, listOf #[.ref sl, .int spot t1] n)], q ∈ news)
    (hm9 : ∀ y, m y = cmP none none none none none f pl hd [(Str.ofString "world", Value.ref ws), (Str.ofString "mine", Value.str mine t2), (Str.ofString "theirs", Value.str theirs t3), (Str.ofString "how", Value.int how t4), (Str.ofString "bag", Value.ref bag)] y) (fne : @Ne Nat f hd ∧ @Ne Nat f pl ∧ @Ne Nat f bag ∧ @Ne Nat f iO) : PJ S B ws bag sl hd pl iO mine theirs how spot t2 t3 t4 n 0 m news :=
  ⟨f, hv, pv, [_, _, _], _, _, _, c1, c2, c3, spot, t1, none, none, none, none, none, sub, hm9, fne, ih, ip, .cons 0 _ (.cons 1 _ (.cons 2 _ .nil)), ⟨by omega, by omega⟩, PSt.start⟩
theorem cmP_at {v1 v2 v3 v4 v5 v : Option Value} {f pl hd : Addr} {bs : List (Str × Value)} (y : Str) : (if y = Str.ofString "at" then v else cmP v1 v2 v3 v4 v5 f pl hd bs y) = cmP v1 v2 v3 v v5 f pl hd bs y := by
  by_cases e0 : y = Str.ofString "old"
  · subst e0; rfl
  by_cases e1 : y = Str.ofString "goal"
  · subst e1; rfl
  by_cases e2 : y = Str.ofString "who"
  · subst e2; rfl
  by_cases e3 : y = Str.ofString "at"
  · subst e3; rfl
  by_cases e4 : y = Str.ofString "asks"
  · subst e4; rfl
  by_cases e5 : y = Str.ofString "free"
  · subst e5; rfl
  by_cases e6 : y = Str.ofString "places"
  · subst e6; rfl
  by_cases e7 : y = Str.ofString "held"
  · subst e7; rfl
  simp only [if_neg e0, if_neg e1, if_neg e2, if_neg e3, if_neg e4, if_neg e5, if_neg e6, if_neg e7]
theorem cmP_ask {v1 v2 v3 v4 v5 o g w : Option Value} {f pl hd : Addr} {bs : List (Str × Value)} (y : Str) : (if y = Str.ofString "old" then o else if y = Str.ofString "goal" then g else if y = Str.ofString "who" then w else cmP v1 v2 v3 v4 v5 f pl hd bs y) = cmP o g w v4 v5 f pl hd bs y := by
  by_cases e0 : y = Str.ofString "old"
  · subst e0; rfl
  by_cases e1 : y = Str.ofString "goal"
  · subst e1; rfl
  by_cases e2 : y = Str.ofString "who"
  · subst e2; rfl
  by_cases e3 : y = Str.ofString "at"
  · subst e3; rfl
  by_cases e4 : y = Str.ofString "asks"
  · subst e4; rfl
  by_cases e5 : y = Str.ofString "free"
  · subst e5; rfl
  by_cases e6 : y = Str.ofString "places"
  · subst e6; rfl
  by_cases e7 : y = Str.ofString "held"
  · subst e7; rfl
  simp only [if_neg e0, if_neg e1, if_neg e2, if_neg e3, if_neg e4, if_neg e5, if_neg e6, if_neg e7]
theorem cmP_take {v1 v2 v3 v4 v5 o g w : Option Value} {D f pl hd : Addr} {bs : List (Str × Value)} (y : Str) : (if y = Str.ofString "free" then some (.ref D) else if y = Str.ofString "old" then o else if y = Str.ofString "goal" then g else if y = Str.ofString "who" then w else cmP v1 v2 v3 v4 v5 f pl hd bs y) = cmP o g w v4 v5 D pl hd bs y := by
  by_cases e0 : y = Str.ofString "old"
  · subst e0; rfl
  by_cases e1 : y = Str.ofString "goal"
  · subst e1; rfl
  by_cases e2 : y = Str.ofString "who"
  · subst e2; rfl
  by_cases e3 : y = Str.ofString "at"
  · subst e3; rfl
  by_cases e4 : y = Str.ofString "asks"
  · subst e4; rfl
  by_cases e5 : y = Str.ofString "free"
  · subst e5; rfl
  by_cases e6 : y = Str.ofString "places"
  · subst e6; rfl
  by_cases e7 : y = Str.ofString "held"
  · subst e7; rfl
  simp only [if_neg e0, if_neg e1, if_neg e2, if_neg e3, if_neg e4, if_neg e5, if_neg e6, if_neg e7]
theorem PJ.next {S B : Int → Int → Int} {ws bag sl hd pl iO f L : Addr} {mine theirs : Str} {how spot spot' : Int} {t' t2 t3 t4 : Tok} {n c1 c2 c3 i : Nat} {m : Str → Option Value} {all : List (Addr × Obj)} {hv pv fv : List Value} {nh np nf : List Int} {v1 v2 v3 v4 v5 : Option Value} {G h' : Heap} {it : Obj} {s₁ : Shared} {tk : Nat}
    (F : Fr G L h' m) (N : News G L h' all) (mI : (iO, it) ∈ all) (mf : (f, listOf fv.toArray c3) ∈ all) (mp : (pl, listOf pv.toArray c2) ∈ all) (mh : (hd, listOf hv.toArray c1) ∈ all) (mb : (bag, listOf #[.ref sl, .int spot' t'] n) ∈ all)
    (hm9 : ∀ y, m y = cmP v1 v2 v3 v4 v5 f pl hd [(Str.ofString "world", Value.ref ws), (Str.ofString "mine", Value.str mine t2), (Str.ofString "theirs", Value.str theirs t3), (Str.ofString "how", Value.int how t4), (Str.ofString "bag", Value.ref bag)] y) (fne : @Ne Nat f hd ∧ @Ne Nat f pl ∧ @Ne Nat f bag ∧ @Ne Nat f iO) (off : @Ne Nat pl iO ∧ @Ne Nat hd iO ∧ @Ne Nat bag iO) (ih : IntsAre hv nh) (ip : IntsAre pv np) (jf : IntsAre fv nf) (sp : spot ≤ spot' ∧ spot' ≤ spot + ((i + 1 : Nat) : Int))
    (I : PSt S B nh np nf ((i : Int) + 1)) : Halt (UnrEnd G L s₁ iO it (PJ S B ws bag sl hd pl iO mine theirs how spot t2 t3 t4 n (i + 1)) { s₁ with heap := h', toks := tk }) := by
  have e : ((i + 1 : Nat) : Int) = (i : Int) + 1 := rfl
  refine UnrEnd.intro F N [(f, listOf fv.toArray c3), (pl, listOf pv.toArray c2), (hd, listOf hv.toArray c1), (bag, listOf #[.ref sl, .int spot' t'] n)] ?_ ?_ ⟨f, hv, pv, fv, nh, np, nf, c1, c2, c3, spot', t', v1, v2, v3, v4, v5, fun _ q => q, hm9, fne, ih, ip, jf, sp, e ▸ I⟩
  · exact List.forall_mem_cons.mpr ⟨mI, List.forall_mem_cons.mpr ⟨mf, List.forall_mem_cons.mpr ⟨mp, List.forall_mem_cons.mpr ⟨mh, List.forall_mem_cons.mpr ⟨mb, List.forall_mem_nil _⟩⟩⟩⟩⟩
  · exact List.forall_mem_cons.mpr ⟨fne.2.2.2, List.forall_mem_cons.mpr ⟨off.1, List.forall_mem_cons.mpr ⟨off.2.1, List.forall_mem_cons.mpr ⟨off.2.2, List.forall_mem_nil _⟩⟩⟩⟩
theorem paired_walk (w : World) {mean : ExcName → Option Value} {mg mb : Str → Option Value} {hb : Heap} (KX : (HK w.params).In hb) (T : Top VW LL mean mg mb hb)
    (s : Shared) (xb : Ext hb s.heap) (ws bag sl : Addr) (mine theirs : Str) (vs : List Value) (ns nsM nsT : List Int) (how spot : Int) (n n2 : Nat) (t1 t2 t3 t4 : Tok) (S B : Int → Int → Int)
    (hm : Mu hb s.heap [(bag, listOf #[.ref sl, .int spot t1] n)]) (hsl : s.heap.get? sl = some (listOf vs.toArray n2)) (hsb : hb.get? sl = none) (hne : @Ne Nat sl bag) (hi : IntsAre vs ns) (hlen : ns.length < 2 ^ 62)
    (h0 : 0 ≤ spot) (h1 : spot < 900) (hh0 : 0 ≤ how) (hh1 : how ≤ 2) (GM : GetAt w hb s.heap ws mine nsM) (GT : GetAt w hb s.heap ws theirs nsT)
    (hS : ∀ i j, 0 ≤ i → i ≤ 2 → 0 ≤ j → j ≤ 2 → nsM.getD (3 * i + j).toNat 0 = S i j) (hB : ∀ i j, 0 ≤ i → i ≤ 2 → 0 ≤ j → j ≤ 2 → nsT.getD (3 * i + j).toNat 0 = B i j) (pS : Pms S) (pB : Pms B) (Q : Value → Shared → Prop)
    (hQ : ∀ D hdx h' tk x y z asks ta tb tc td spot' t3 c1 c2, ExtBut [bag] s.heap h' → (spot ≤ spot' ∧ spot' ≤ spot + 10) → Good S B x y z asks → (@LT.lt Nat _ bag hdx ∧ @LT.lt Nat _ bag D) →
      Mu hb h' ([(D, ({ cls := .type "tuple", data := .seq #[.ref hdx, .int asks td] c2 } : Obj)), (hdx, listOf #[.int x ta, .int y tb, .int z tc] c1)] ++ [(bag, listOf #[.ref sl, .int spot' t3] n)]) → Q (.ref D) { s with heap := h', toks := tk }) :
    wpAny (model pw w) (Ar 600 2000) (call (.ref 248) [.ref ws, .str mine t2, .str theirs t3, .int how t4, .ref bag]) Q (fun _ _ => False) s := by
  refine wpAny_call ?_
  refine' enterM (binds := [(Str.ofString "world", .ref ws), (Str.ofString "mine", .str mine t2), (Str.ofString "theirs", .str theirs t3), (Str.ofString "how", .int how t4), (Str.ofString "bag", .ref bag)]) _ ?KX ?T ?xb ?hm ?k6 ?k7 ?k8 ?k9 ?kB ?_ ?c2 ?c3 ?c4 ?c5; (case KX => assumption); (case T => assumption); (case xb => assumption); (case hm => assumption); (case k6 => k_is); (case k7 => k_is); (case k8 => decide); (case k9 => exact BindsTo.of_eq rfl); (case kB => exact locs rfl); (case c5 => decide); (case c2 => exact rfl); (case c3 => exact rfl); (case c4 => exact rfl)
  intro G L' h₁ hg KX' T' F' N' l0
  have GM' : GetAt w hb G ws mine nsM := hg ▸ GM.hide (hm _ (.head _)).1
  have GT' : GetAt w hb G ws theirs nsT := hg ▸ GT.hide (hm _ (.head _)).1
  have xg : Ext hb G := hg ▸ mu_stays xb hm
  have hslG : G.get? sl = some (listOf vs.toArray n2) := hg ▸ hideAll_get _ hsl (fun q => hne (List.mem_singleton.mp q))
  have l0' := l0
  k_lt l0'
  k_steps
  rename_i hd h9 i1a n1a s1a e1a e2a e3a l15 lt h8 l14 pl h7 i1b n1b s1b e1b e2b e3b l13 fr h6 l12 tD h5 l11 h4 h3 h2 h1' F9 N9 h0' tk9 t9 u9 v9 r9 a9 iO l10
  refine range_ind (J := PJ S B ws bag sl hd pl iO mine theirs how spot t2 t3 t4 n) ?st ?sp ?fi
  case st =>
    refine PJ.start i1a i1b (List.forall_mem_cons.mpr ⟨by k_mem, List.forall_mem_cons.mpr ⟨by k_mem, List.forall_mem_cons.mpr ⟨by k_mem, List.forall_mem_cons.mpr ⟨by k_mem, List.forall_mem_nil _⟩⟩⟩⟩) ?_ ⟨by omega, by omega, by omega, by omega⟩
    intro y
    by_cases e0 : y = Str.ofString "old"
    · subst e0; rfl
    by_cases e1 : y = Str.ofString "goal"
    · subst e1; rfl
    by_cases e2 : y = Str.ofString "who"
    · subst e2; rfl
    by_cases e3 : y = Str.ofString "at"
    · subst e3; rfl
    by_cases e4 : y = Str.ofString "asks"
    · subst e4; rfl
    by_cases e5 : y = Str.ofString "free"
    · subst e5; rfl
    by_cases e6 : y = Str.ofString "places"
    · subst e6; rfl
    by_cases e7 : y = Str.ofString "held"
    · subst e7; rfl
    simp only [if_neg e0, if_neg e1, if_neg e2, if_neg e3, if_neg e4, if_neg e5, if_neg e6, if_neg e7]
  case fi =>
    rintro m news h tk ⟨f, hv, pv, fv, nh, np, nf, c1, c2, c3, spot', t', v1, v2, v3, v4, v5, sub, hm9, fne, ih, ip, jf, sp, I⟩ F N
    exact absurd I.bound (by decide)
  case sp =>
    have lA : @LT.lt Nat _ bag hd ∧ @LT.lt Nat _ hd pl ∧ @LT.lt Nat _ pl iO := ⟨by omega, by omega, by omega⟩
    clear i1a n1a s1a e1a e2a e3a l15 l14 i1b n1b s1b e1b e2b e3b l13 l12 l11 F9 N9 r9 a9 l10
    rintro i m news t h tk hi' ⟨f, hv, pv, fv, nh, np, nf, c1, c2, c3, spot', t', v1, v2, v3, v4, v5, sub, hm9, fne, ih, ip, jf, sp, I⟩ F N
    have F2 := Fr.congr F (fun y => (if_at (hm9 y)).trans (cmP_asks y))
    have N2 := News.sub1 N sub
    clear F N sub hm9
    obtain ⟨ln1, ln2, ln3⟩ := I.len
    k_steps
    · subst hg
      have e0 : nf = [] := of_decide_eq_true (by assumption)
      obtain ⟨x, y, z, rfl, g⟩ := I.good pS pB e0
      obtain ⟨ta, tb, tc, rfl⟩ := ints3 ih
      rename News _ _ _ _ => N5
      rename _ ∧ _ => l5
      have e1 : (0 : Int) + (i : Int) = i := Int.zero_add _
      rw [e1] at N5
      refine hQ _ hd _ _ x y z i _ _ _ _ spot' t' _ _ (ext_but (by assumption) hm N5 (List.forall_mem_cons.mpr ⟨Or.inl (List.Mem.head _), List.forall_mem_nil _⟩)) ⟨sp.1, by omega⟩ g ⟨by omega, by omega⟩ (Mu.app (mu_new (mu_stays xb hm) N5 (by lcg_sub)) (fun q hq => ?_))
      rw [List.mem_singleton.mp hq]
      exact ⟨(N5 _ (by k_mem)).1, (hm _ (List.Mem.head _)).2⟩
    · have e0 : nf ≠ [] := of_decide_eq_false (by assumption)
      have hpos : 0 < nf.length := List.length_pos_iff.mpr e0
      have hfl := IntsAre.length jf
      rename News _ _ _ _ => N5
      have N6 := News.sub (b := (iO, itR (0 + ((i + 1 : Nat) : Int)) (((10 : Nat) : Int) - ((i + 1 : Nat) : Int))) :: [(f, listOf fv.toArray c3), (pl, listOf pv.toArray c2), (hd, listOf hv.toArray c1), (bag, listOf #[.ref sl, .int spot' t'] n)]) N5 (by lcg_sub)
      clear N5
      refine Halt.of (wpAny_mono (Q := AtP s G L' (fun v => cmP v1 v2 v3 v (some (.int (0 + (i : Int)) t)) f pl hd [(Str.ofString "world", Value.ref ws), (Str.ofString "mine", Value.str mine t2), (Str.ofString "theirs", Value.str theirs t3), (Str.ofString "how", Value.int how t4), (Str.ofString "bag", Value.ref bag)]) (fun sp' t' => (iO, itR (0 + ((i + 1 : Nat) : Int)) (((10 : Nat) : Int) - ((i + 1 : Nat) : Int))) :: [(f, listOf fv.toArray c3), (pl, listOf pv.toArray c2), (hd, listOf hv.toArray c1), (bag, listOf #[.ref sl, .int sp' t'] n)]) nf.length spot') ?wa (fun fl s' q => ?wb) (fun _ _ e => e))
      case wa =>
        k_steps
        · exact ⟨rfl, _, _, _, _, spot', t', rfl, Fr.congr (by assumption) (fun y => cmP_at y), by assumption, by omega, by omega, by omega, by omega⟩
        · exact ⟨rfl, _, _, _, _, spot', t', rfl, Fr.congr (by assumption) (fun y => cmP_at y), by assumption, by omega, by omega, by omega, by omega⟩
        · exact ⟨rfl, _, _, _, _, _, _, rfl, Fr.congr (by assumption) (fun y => cmP_at y), by assumption, by omega, by omega, by omega, by omega⟩
      case wb =>
        obtain ⟨rfl, h', tk, k, tt, spot2, t5, rfl, F5, N5, k0, k1, s0, s1⟩ := q
        obtain ⟨⟨w0, w1⟩, ⟨p0, p1⟩, g0, g1⟩ := I.ask pS k0 k1 rfl
        have hgoal := hS _ _ w0 w1 p0 (by omega)
        rw [← hgoal] at g0 g1
        have ek : (k + 1).toNat = k.toNat + 1 := by omega
        k_steps
        · rename Addr => fD
          rename News _ _ _ _ => N9
          rename _ ∧ _ => l9
          refine PJ.next (by assumption) N9 (by k_mem) (f := fD) (by k_mem) (by k_mem) (by k_mem) (by k_mem) (fun y => cmP_take y) ⟨by omega, by omega, by omega, by omega⟩ ⟨by omega, by omega, by omega⟩ (by assumption) (by assumption) (by assumption) ⟨by omega, by omega⟩ ?_
          exact I.take pS k0 k1 rfl hgoal.symm (by assumption) (by rw [ek])
        · rename News _ _ _ _ => N9
          obtain ⟨o0, o1⟩ := I.old g0 g1 (by assumption)
          refine PJ.next (by assumption) N9 (by k_mem) (f := f) (by k_mem) (by k_mem) (by k_mem) (by k_mem) (fun y => cmP_ask y) fne ⟨by omega, by omega, by omega⟩ (by assumption) (by assumption) (by assumption) ⟨by omega, by omega⟩ ?_
          exact I.swap pS k0 k1 rfl hgoal.symm rfl (by assumption) (by rw [← plc_rk hB pB g0 g1 w0 w1, ← plc_rk hB pB g0 g1 o0 o1]; assumption)
        · rename News _ _ _ _ => N9
          obtain ⟨o0, o1⟩ := I.old g0 g1 (by assumption)
          refine PJ.next (by assumption) N9 (by k_mem) (f := f) (by k_mem) (by k_mem) (by k_mem) (by k_mem) (fun y => cmP_ask y) fne ⟨by omega, by omega, by omega⟩ (by assumption) (by assumption) (by assumption) ⟨by omega, by omega⟩ ?_
          exact I.stay pS pB k0 k1 rfl hgoal.symm rfl (by assumption) (by rw [← plc_rk hB pB g0 g1 w0 w1, ← plc_rk hB pB g0 g1 o0 o1]; assumption)
end
theorem orders_walk (w : World) {mean : ExcName → Option Value} {mg mb : Str → Option Value} {hb : Heap} (KX : (HK w.params).In hb) (T : Top VW LL mean mg mb hb)
    (s : Shared) (xb : Ext hb s.heap) (muts : List (Addr × Obj)) (hm : Mu hb s.heap muts) (Q : Value → Shared → Prop)
    (hQ : ∀ D b0 b1 b2 b3 b4 b5 c0 c1 c2 c3 c4 c5 n h' tk, Ext s.heap h' → Mu hb h' [(D, listOf #[.ref b0, .ref b1, .ref b2, .ref b3, .ref b4, .ref b5] n), (b0, c0), (b1, c1), (b2, c2), (b3, c3), (b4, c4), (b5, c5)] →
      IsT3 c0 0 1 2 → IsT3 c1 1 2 0 → IsT3 c2 0 2 1 → IsT3 c3 1 0 2 → IsT3 c4 2 1 0 → IsT3 c5 2 0 1 → (∀ p ∈ muts, @LT.lt Nat _ p.1 b0) → (@LT.lt Nat _ b0 b1 ∧ @LT.lt Nat _ b1 b2 ∧ @LT.lt Nat _ b2 b3 ∧ @LT.lt Nat _ b3 b4 ∧ @LT.lt Nat _ b4 b5 ∧ @LT.lt Nat _ b5 D) → Q (.ref D) { s with heap := h', toks := tk }) :
    wpAny (model pw w) (Ar 800 3000) (call (.ref 234) []) Q (fun _ _ => False) s := by
  have st := mu_stays xb hm
  refine wpAny_call ?_
  refine' enterM (binds := []) _ ?KX ?T ?xb ?hm ?k6 ?k7 ?k8 ?k9 ?kB ?_ ?c2 ?c3 ?c4 ?c5; (case KX => assumption); (case T => assumption); (case xb => assumption); (case hm => assumption); (case k6 => k_is); (case k7 => k_is); (case k8 => decide); (case k9 => exact BindsTo.of_eq rfl); (case kB => exact locs rfl); (case c5 => decide); (case c2 => exact rfl); (case c3 => exact rfl); (case c4 => exact rfl)
  intro G L' h₁ hg KX' T' F' N' l1
  k_steps
  rename_i b0 h6 lo0 b1 h5 lo1 b2 h4 lo2 b3 h3 lo3 b4 h2 lo4 b5 h1' lo5 D h' F9 N9 lo6
  subst hg
  exact hQ D b0 b1 b2 b3 b4 b5 _ _ _ _ _ _ _ _ _ (ext_read F9 hm N9 (fun q hq => .tail _ (.tail _ (.tail _ (.tail _ (.tail _ (.tail _ (.tail _ hq))))))))
    (mu_new st N9 (List.forall_mem_cons.mpr ⟨.head _, List.forall_mem_cons.mpr ⟨.tail _ (.tail _ (.tail _ (.tail _ (.tail _ (.tail _ (.head _)))))), List.forall_mem_cons.mpr ⟨.tail _ (.tail _ (.tail _ (.tail _ (.tail _ (.head _))))), List.forall_mem_cons.mpr ⟨.tail _ (.tail _ (.tail _ (.tail _ (.head _)))), List.forall_mem_cons.mpr ⟨.tail _ (.tail _ (.tail _ (.head _))), List.forall_mem_cons.mpr ⟨.tail _ (.tail _ (.head _)), List.forall_mem_cons.mpr ⟨.tail _ (.head _), List.forall_mem_nil _⟩⟩⟩⟩⟩⟩⟩))
    ⟨_, _, _, _, rfl⟩ ⟨_, _, _, _, rfl⟩ ⟨_, _, _, _, rfl⟩ ⟨_, _, _, _, rfl⟩ ⟨_, _, _, _, rfl⟩ ⟨_, _, _, _, rfl⟩ lo0 ⟨lo1.1, lo2.1, lo3.1, lo4.1, lo5.1, lo6.1⟩
/-- new objects that are no namespaces join the ledger -/
theorem news_add {h₀ h h' : Heap} {L : Addr} {m : Str → Option Value} {news new : List (Addr × Obj)} (F : Fr h₀ L h m) (N : News h₀ L h news) (x : Ext h h') (M : Mu h₀ h' new) (nd : ∀ q ∈ new, ∀ es ep, q.2.data ≠ .dict es ep) : News h₀ L h' (new ++ news) := fun q hq => by
  rcases List.mem_append.mp hq with hq | hq
  · refine ⟨(M q hq).1, fun e => ?_, (M q hq).2⟩
    obtain ⟨oL, es, ep, hL, hLd, _⟩ := (F.keeps x).ns
    rw [← e, (M q hq).1] at hL
    exact nd q hq es ep (Option.some.inj hL ▸ hLd)
  · exact News.keepsAll N x q hq
theorem IsT3.nd {o : Obj} {x y z : Int} (h : IsT3 o x y z) : ∀ es ep, o.data ≠ .dict es ep := by
  obtain ⟨_, _, _, _, rfl⟩ := h
  intro es ep e
  exact Data.noConfusion e
theorem orders_line {w : World} {mean : ExcName → Option Value} {mg mb : Str → Option Value} {A : Around} {E : Value → Shared → Prop} {Q : Value → Shared → Prop} {s : Shared} {h₀ : Heap} {L : Addr} {m : Str → Option Value} {news : List (Addr × Obj)}
    (F : Fr h₀ L s.heap m) (N : News h₀ L s.heap news) (KX : (HK w.params).In h₀) (T : Top VW LL mean mg mb h₀) (hh : A.handled = none) (e1 : A.depth ≤ 800) (e2 : A.units ≤ 3000)
    (h : ∀ D b0 b1 b2 b3 b4 b5 c0 c1 c2 c3 c4 c5 n h' tk, Fr h₀ L h' m → News h₀ L h' ((D, listOf #[.ref b0, .ref b1, .ref b2, .ref b3, .ref b4, .ref b5] n) :: (b0, c0) :: (b1, c1) :: (b2, c2) :: (b3, c3) :: (b4, c4) :: (b5, c5) :: news) →
      IsT3 c0 0 1 2 → IsT3 c1 1 2 0 → IsT3 c2 0 2 1 → IsT3 c3 1 0 2 → IsT3 c4 2 1 0 → IsT3 c5 2 0 1 → (∀ p ∈ news, @LT.lt Nat _ p.1 b0) → (@LT.lt Nat _ b0 b1 ∧ @LT.lt Nat _ b1 b2 ∧ @LT.lt Nat _ b2 b3 ∧ @LT.lt Nat _ b3 b4 ∧ @LT.lt Nat _ b4 b5 ∧ @LT.lt Nat _ b5 D) → Q (.ref D) { s with heap := h', toks := tk }) :
    wpAny (model pw w) A (call (.ref 234) []) Q E s := by
  refine wk hh e1 e2 (wpAny_mono (orders_walk w KX T s F.keep news (fun q hq => ⟨(N q hq).1, (N q hq).2.2⟩) Q (fun D b0 b1 b2 b3 b4 b5 c0 c1 c2 c3 c4 c5 n h' tk x M i0 i1 i2 i3 i4 i5 lo ch =>
    h D b0 b1 b2 b3 b4 b5 c0 c1 c2 c3 c4 c5 n h' tk (F.keeps x) (news_add F N x M ?_) i0 i1 i2 i3 i4 i5 lo ch)) (fun _ _ q => q) fun _ _ q => q.elim)
  exact List.forall_mem_cons.mpr ⟨fun es ep e => Data.noConfusion e, List.forall_mem_cons.mpr ⟨i0.nd, List.forall_mem_cons.mpr ⟨i1.nd, List.forall_mem_cons.mpr ⟨i2.nd, List.forall_mem_cons.mpr ⟨i3.nd, List.forall_mem_cons.mpr ⟨i4.nd, List.forall_mem_cons.mpr ⟨i5.nd, List.forall_mem_nil _⟩⟩⟩⟩⟩⟩⟩
/-- the six orders -/
def o1 (k : Int) : Int := if k = 0 then 0 else if k = 1 then 1 else if k = 2 then 0 else if k = 3 then 1 else 2
def o2 (k : Int) : Int := if k = 0 then 1 else if k = 1 then 2 else if k = 2 then 2 else if k = 3 then 0 else if k = 4 then 1 else 0
def o3 (k : Int) : Int := if k = 0 then 2 else if k = 1 then 0 else if k = 2 then 1 else if k = 3 then 2 else if k = 4 then 0 else 1
def od (k j : Int) : Int := pk j (o1 k) (o2 k) (o3 k)
theorem six {k : Int} (h0 : 0 ≤ k) (h1 : k < 6) : k = 0 ∨ k = 1 ∨ k = 2 ∨ k = 3 ∨ k = 4 ∨ k = 5 := by omega
theorem od_pm {k : Int} (h0 : 0 ≤ k) (h1 : k < 6) : Pm (od k 0) (od k 1) (od k 2) := by
  rcases six h0 h1 with rfl | rfl | rfl | rfl | rfl | rfl <;> (unfold Pm; decide)
section
variable {prog : Program} {w : World} {A : Around} {E : Value → Shared → Prop} {s : Shared} {h₀ : Heap} {L D : Addr} {news : List (Addr × Obj)} {n : Nat} {value slice : PySem.Expr}
theorem six_item {b0 b1 b2 b3 b4 b5 : Addr} {c0 c1 c2 c3 c4 c5 : Obj} {base : List (Addr × Obj)} {k : Int} {u : Tok} {Q : Value → Shared → Prop} (N : News h₀ L s.heap ((D, listOf #[.ref b0, .ref b1, .ref b2, .ref b3, .ref b4, .ref b5] n) :: (b0, c0) :: (b1, c1) :: (b2, c2) :: (b3, c3) :: (b4, c4) :: (b5, c5) :: base))
    (h0 : 0 ≤ k) (h1 : k < 6) (i0 : IsT3 c0 0 1 2) (i1 : IsT3 c1 1 2 0) (i2 : IsT3 c2 0 2 1) (i3 : IsT3 c3 1 0 2) (i4 : IsT3 c4 2 1 0) (i5 : IsT3 c5 2 0 1)
    (ch : @LT.lt Nat _ b0 b1 ∧ @LT.lt Nat _ b1 b2 ∧ @LT.lt Nat _ b2 b3 ∧ @LT.lt Nat _ b3 b4 ∧ @LT.lt Nat _ b4 b5 ∧ @LT.lt Nat _ b5 D)
    (h : ∀ a o, News h₀ L s.heap ((a, o) :: base) → IsT3 o (od k 0) (od k 1) (od k 2) → @LE.le Nat _ b0 a → Q (.ref a) s)
    (hs : subscripted slice false (.ref D) (.int k u) = operate [.ref D, .int k u] (getItem (.ref D) (.int k u))) : wpAny (model prog w) A (subscriptTail value slice (.ref D) (.int k u)) Q E s := by
  have hl : s.heap.IsList D #[.ref b0, .ref b1, .ref b2, .ref b3, .ref b4, .ref b5] := PySem.IsL.isList (n := n) (N _ (.head _)).1
  have ad : ∀ {a o}, (a, o) ∈ [(b0, c0), (b1, c1), (b2, c2), (b3, c3), (b4, c4), (b5, c5)] → News h₀ L s.heap ((a, o) :: base) := fun {a o} hm => by
    refine News.sub N (List.forall_mem_cons.mpr ⟨?_, fun q hq => .tail _ (.tail _ (.tail _ (.tail _ (.tail _ (.tail _ (.tail _ hq))))))⟩)
    exact .tail _ (List.mem_append_left base hm)
  refine tail_any hl.typeIs slot_list_getitem.lookup ?_ hs
  rcases six h0 h1 with rfl | rfl | rfl | rfl | rfl | rfl
  · exact wpAny_getItem_list hl (by decide) (by decide) rfl (h _ _ (ad (.head _)) i0 (Nat.le_refl _))
  · exact wpAny_getItem_list hl (by decide) (by decide) rfl (h _ _ (ad (.tail _ (.head _))) i1 (by omega))
  · exact wpAny_getItem_list hl (by decide) (by decide) rfl (h _ _ (ad (.tail _ (.tail _ (.head _)))) i2 (by omega))
  · exact wpAny_getItem_list hl (by decide) (by decide) rfl (h _ _ (ad (.tail _ (.tail _ (.tail _ (.head _))))) i3 (by omega))
  · exact wpAny_getItem_list hl (by decide) (by decide) rfl (h _ _ (ad (.tail _ (.tail _ (.tail _ (.tail _ (.head _)))))) i4 (by omega))
  · exact wpAny_getItem_list hl (by decide) (by decide) rfl (h _ _ (ad (.tail _ (.tail _ (.tail _ (.tail _ (.tail _ (.head _))))))) i5 (by omega))
end
local macro_rules | `(tactic| walk_at "subscriptTail") => `(tactic| (k_here; (with_reducible show wpAny _ _ (subscriptTail _ _ (Value.ref _) (Value.int _ _)) _ _ _); k_dflt (refine' six_item ?N ?b0 ?b1 ?i0 ?i1 ?i2 ?i3 ?i4 ?i5 ?ch ?_ ?hs; (case N => k_asm); (case b0 | b1 | i0 | i1 | i2 | i3 | i4 | i5 | ch => assumption); (case hs => with_unfolding_all rfl); intro a9 o9 N9 i9 le9)))
local macro_rules | `(tactic| walk_at "call ref") => `(tactic| (k_here; (with_reducible show wpAny _ _ (call (Value.ref 234) _) _ _ _); k_dflt (refine' orders_line ?F ?N ?KX ?T ?hh ?h1 ?h2 ?_; (case F | N => k_asm); (case KX | T => assumption); (case hh => exact rfl); (case h1 | h2 => exact Nat.le_of_ble_eq_true rfl)); intro D' b0' b1' b2' b3' b4' b5' c0' c1' c2' c3' c4' c5' n' h' tk' F' N' i0' i1' i2' i3' i4' i5' lo' ch'; (try k_lt lo')))
/-- a turn's end: the new one stands ahead of the turn's three -/
theorem sub_end {a i c d : Addr × Obj} {l l' : List (Addr × Obj)} (s : ∀ q ∈ l, q ∈ l') : ∀ q ∈ i :: c :: d :: a :: l, q ∈ a :: i :: c :: d :: l' :=
  List.forall_mem_cons.mpr ⟨.tail _ (.head _), List.forall_mem_cons.mpr ⟨.tail _ (.tail _ (.head _)), List.forall_mem_cons.mpr ⟨.tail _ (.tail _ (.tail _ (.head _))), List.forall_mem_cons.mpr ⟨.head _, fun q hq => .tail _ (.tail _ (.tail _ (.tail _ (s q hq))))⟩⟩⟩⟩
theorem six_ne {x b0 b1 b2 b3 b4 b5 D : Nat} (h : x < b0) (ch : b0 < b1 ∧ b1 < b2 ∧ b2 < b3 ∧ b3 < b4 ∧ b4 < b5 ∧ b5 < D) : b0 ≠ x ∧ b1 ≠ x ∧ b2 ≠ x ∧ b3 ≠ x ∧ b4 ≠ x ∧ b5 ≠ x ∧ D ≠ x := by omega
local macro_rules | `(tactic| k_ne) => `(tactic| (refine neN ?_; (try dsimp only); first | assumption | omega))
local macro_rules | `(tactic| k_updF) => `(tactic| first | (refine' UpdF.head ?a; (case a => first | assumption | k_all)) | (refine' UpdF.tail ?a ?b; (case a => k_ne); (case b => k_updF)))
/-- the law's own def, taken out of the given program -/
def lawFn : Stmt := PySem.Challenge.pw_xm0035_01.main.body.getLastD default
def lawBody : List Stmt := match lawFn with
  | .FunctionDef _ _ b _ _ _ _ _ _ _ => b
  | _ => []
def lawScope : Scope := match lawFn with
  | .FunctionDef _ _ _ _ _ _ sc _ _ _ => sc
  | _ => default
def lawSt (k : Nat) : Stmt := lawBody.getD k default
abbrev lawEnv (L f : Addr) (cdv : Value) : Env := envOfC (Str.ofString "law") lawScope L f cdv
abbrev lawA (L f : Addr) (cdv : Value) : Around := (Ar 400 1000).deeper (lawEnv L f cdv)
/-- a fact kept out of assumption's sight -/
structure Box (p : Prop) : Prop where
  out : p
/-- one of the six orders, as a tuple -/
def Six (o : Obj) : Prop := ∃ k : Int, 0 ≤ k ∧ k < 6 ∧ IsT3 o (od k 0) (od k 1) (od k 2)
/-- what the comprehension of the orders has made so far -/
def SJ (bag sl : Addr) (c2 : Nat) (spot : Int) (old : List (Addr × Obj)) (i : Nat) (ys : List Value) (news : List (Addr × Obj)) : Prop :=
  ∃ (t3 : Tok) (new : List (Addr × Obj)), news = (bag, listOf #[.ref sl, .int (spot + i) t3] c2) :: (new ++ old) ∧ new.length = i ∧ ys = new.map (fun q => Value.ref q.1) ∧ (∀ q ∈ new, Six q.2 ∧ q.1 ≠ bag ∧ ∀ p ∈ old, p.1 ≠ q.1)
theorem callWith_now {prog : Program} {w : World} {A : Around} {E : Value → Shared → Prop} {s : Shared} {K : Frag} {pos : Pos} {f : Value} {env : Env} {Q : Value → Shared → Prop} {h₀ : Heap} {L : Addr} {m : Str → Option Value} (X : K.In h₀) (F : Fr h₀ L s.heap m) (hk : keepIn K f = true)
    (h : wpAny (model prog w) A (call f ([] ++ [])) Q E s) : wpAny (model prog w) A (callWith pos f [] (backTo pos (starEach [] env)) []) Q E s := callWith_K0 (X.keeps F.keep) hk h
theorem allLt_mem {d : Addr} {l : List (Addr × Obj)} (h : AllLt d l) : ∀ p ∈ l, @LT.lt Nat _ p.1 d := by
  induction l with
  | nil => intro p hp; cases hp
  | cons a l ih =>
    intro p hp
    rcases List.mem_cons.mp hp with e | hp
    · rw [e]; exact h.1
    · exact ih h.2 p hp
theorem off1_mem {D : Addr} {l : List (Addr × Obj)} (h : LCg.Off1 D l) : ∀ p ∈ l, @Ne Nat p.1 D := by
  induction l with
  | nil => intro p hp; cases hp
  | cons a l ih =>
    intro p hp
    rcases List.mem_cons.mp hp with e | hp
    · rw [e]; exact h.1
    · exact ih h.2 p hp
theorem len3 {α : Type} {l : List α} (h : l.length = 3) : ∃ a b c, l = [a, b, c] := by
  cases l with
  | nil => cases h
  | cons a l =>
    cases l with
    | nil => cases h
    | cons b l =>
      cases l with
      | nil => cases h
      | cons c l =>
        cases l with
        | nil => exact ⟨a, b, c, rfl⟩
        | cons d l => simp at h
local macro_rules | `(tactic| walk_at "callWith ref") => `(tactic| (k_here; (with_reducible show wpAny _ _ (callWith _ (Value.ref _) [] (backTo _ (starEach [] _)) []) _ _ _); k_dflt (refine' callWith_now ?k1 ?F ?k2 ?_; (case k1 | F => assumption); (case k2 => k_is)); (try dsimp only [List.nil_append])))
local macro_rules | `(tactic| k_mem) => `(tactic| ((fail_if_success (refine List.Mem.tail _ ?_)); assumption))
section
local macro_rules | `(tactic| walk_at "CompSrc") => `(tactic| refine Halt.mk ?_) -- here
local macro_rules | `(tactic| walk_at "CompEnd") => `(tactic| refine Halt.mk ?_) -- here
local macro_rules | `(tactic| walk_at "call ref") => `(tactic| ((with_reducible show wpAny _ _ (call (Value.ref 227) _) _ _ _); refine Halt.mk ?_)) -- here
theorem suit_walk (w : World) {mean : ExcName → Option Value} {mg mb : Str → Option Value} {g : Heap} (KX : (HK w.params).In g) (T : Top VW LL mean mg mb g)
    (L f : Addr) (cdv : Value) (s : Shared) (m : Str → Option Value) (bag sl : Addr) (c2 : Nat) (spot : Int) (t1 : Tok) (oS oB : Obj) (vS : Option Value) (wl : List Value) (ns : List Int) (tl : List (Addr × Obj))
    (F : Fr g L s.heap m) (N : News g L s.heap ((bag, listOf #[.ref sl, .int spot t1] c2) :: (L + 1 + 1, oS) :: tl)) (dS : oS.data = .cell vS) (nbl : ∀ q ∈ tl, q.1 ≠ bag) (nbc : @Ne Nat (L + 1 + 1) bag) (ncl : ∀ q ∈ tl, q.1 ≠ L + 1 + 1)
    (mB : (L + 1, oB) ∈ tl) (dB : oB.data = .cell (some (.ref bag))) (msl : (sl, listOf wl.toArray 0) ∈ tl) (wI : IntsAre wl ns) (hl2 : Box (ns.length < 2 ^ 62)) (h0 : 0 ≤ spot) (h1 : spot < 900) (Q : Flow → Shared → Prop) (E : Value → Shared → Prop)
    (hQ : ∀ h' tk t3 oS' D n a0 a1 a2 o0 o1 o2, Fr g L h' m → News g L h' ((bag, listOf #[.ref sl, .int (spot + 3) t3] c2) :: (L + 1 + 1, oS') :: (D, listOf #[.ref a0, .ref a1, .ref a2] n) :: (a0, o0) :: (a1, o1) :: (a2, o2) :: tl) → oS'.data = .cell (some (.ref D)) →
      Six o0 → Six o1 → Six o2 → (@Ne Nat D bag ∧ @Ne Nat a0 bag ∧ @Ne Nat a1 bag ∧ @Ne Nat a2 bag) → (@Ne Nat D (L + 1 + 1) ∧ @Ne Nat a0 (L + 1 + 1) ∧ @Ne Nat a1 (L + 1 + 1) ∧ @Ne Nat a2 (L + 1 + 1)) → (∀ p ∈ tl, p.1 ≠ D ∧ p.1 ≠ a0 ∧ p.1 ≠ a1 ∧ p.1 ≠ a2) →
      Q .next { s with heap := h', toks := tk }) :
    wpAny (model pw w) (lawA L f cdv) (exec (lawSt 1) (lawEnv L f cdv)) Q E s := by
  unfold lawA lawEnv
  conv in lawSt 1 => whnf
  conv in (occs := *) lawScope => all_goals whnf
  have xx : Ext g g := Ext.refl _
  have hsb : g.get? sl = none := (N (sl, listOf wl.toArray 0) (.tail _ (.tail _ msl))).2.2
  have hne : @Ne Nat sl bag := nbl _ msl
  have mB' : (L + 1, oB) ∈ (L + 1 + 1, oS) :: tl := .tail _ mB
  have msl' : (sl, listOf wl.toArray 0) ∈ (L + 1 + 1, oS) :: tl := .tail _ msl
  have nbl' : ∀ q ∈ (L + 1 + 1, oS) :: tl, q.1 ≠ bag := List.forall_mem_cons.mpr ⟨nbc, nbl⟩
  have mO : (L + 1 + 1, oS) ∈ (L + 1 + 1, oS) :: tl := .head _
  k_steps
  rename IsRange _ _ _ _ _ _ _ _ => rZ
  rename News _ _ _ _ => NZ
  rename Fr _ _ _ _ => FZ
  have NZ2 : News _ _ _ ((bag, listOf #[.ref sl, .int spot t1] c2) :: ([] ++ (L + 1 + 1, oS) :: tl)) := NZ
  refine Halt.of (LCg.CompSrc.range (n := 3) (by rfl) FZ NZ2 rZ (by first | decide | rfl) (by first | rfl | decide) (by first | size_fits | exact Nat.le_of_ble_eq_true rfl) ?_)
  intro g'
  clear rZ FZ NZ2 NZ
  refine comp_ind (SJ bag sl c2 spot ((L + 1 + 1, oS) :: tl)) ⟨t1, [], by simp, rfl, rfl, fun q hq => nomatch hq⟩ ?step ?fin
  case step =>
    rintro i ys news v I oI C oC D m₂ hh tk E' hi ⟨t3, new, rfl, ln, rfl, hn⟩ ⟨t9, rfl⟩ hC hx FA NA off ne

    have offm := LCg.Off3.mem off
    obtain ⟨tl2, etl⟩ : ∃ tl2, tl2 = new ++ (L + 1 + 1, oS) :: tl := ⟨_, rfl⟩
    rw [← etl] at NA off
    have sub2 : ∀ q ∈ (L + 1 + 1, oS) :: tl, q ∈ tl2 := fun q hq => etl ▸ List.mem_append_right _ hq
    have mB2 := sub2 _ mB'
    have msl2 := sub2 _ msl'
    have nb2 : ∀ q ∈ tl2, q.1 ≠ bag := fun q hq => by
      rw [etl] at hq
      rcases List.mem_append.mp hq with hq | hq
      · exact (hn q hq).2.1
      · exact nbl' q hq
    have o0 := LCg.Off3.mem off _ (.head _)
    have nI : @Ne Nat I bag := Ne.symm o0.1
    have nC : @Ne Nat C bag := Ne.symm o0.2.1
    have nD : @Ne Nat D bag := Ne.symm o0.2.2
    clear mB msl nbl nbc ncl dS mB' msl' nbl' mO
    k_steps
    rename_i Dl b0 b1 b2 b3 b4 b5 e0 e1 e2 e3 e4 e5 nl hw tw Fw Nw i0 i1 i2 i3 i4 i5 ch lo cE
    have lb : @LT.lt Nat _ bag b0 := lo.2.2.2.1
    have la := lo.2.2.2.2
    obtain ⟨x0, x1, x2, x3, x4, x5, x6⟩ := six_ne lb ch
    refine Halt.of (choice_line Fw Nw KX T xx (by k_updF) (News.get Nw (by k_mem)) hsb hne wI hl2.out (by omega) (by omega) (by decide) (by decide) (by exact rfl) (by exact Nat.le_of_ble_eq_true rfl) (by exact Nat.le_of_ble_eq_true rfl) ?_)
    intro ky ty hy tky tz kb0 kb1 Fy Ny
    (try dsimp only at Ny)
    clear Fw Nw
    k_steps
    rename_i ay oy Ny9 iy ley
    have lay : @LT.lt Nat _ bag ay := Nat.lt_of_lt_of_le lb ley
    have inn : ∀ q ∈ (new ++ [(ay, oy)]) ++ (L + 1 + 1, oS) :: tl, q = (ay, oy) ∨ q ∈ tl2 := fun q hq => by
      rw [etl]
      rcases List.mem_append.mp hq with hq | hq
      · rcases List.mem_append.mp hq with hq | hq
        · exact .inr (List.mem_append_left _ hq)
        · exact .inl (List.mem_singleton.mp hq)
      · exact .inr (List.mem_append_right _ hq)
    have eB : spot + (i : Int) + 1 = spot + ((i + 1 : Nat) : Int) := by omega
    rw [eB] at Ny9
    refine Halt.of (LCg.CompEnd.intro Fy Ny9 ((bag, listOf #[.ref sl, .int (spot + ((i + 1 : Nat) : Int)) tz] c2) :: ((new ++ [(ay, oy)]) ++ (L + 1 + 1, oS) :: tl)) ?_ ?_ trivial ?_)
    · refine List.forall_mem_cons.mpr ⟨.tail _ (.head _), List.forall_mem_cons.mpr ⟨.tail _ (.tail _ (.head _)), List.forall_mem_cons.mpr ⟨.tail _ (.tail _ (.tail _ (.head _))), List.forall_mem_cons.mpr ⟨.tail _ (.tail _ (.tail _ (.tail _ (.head _)))), fun q hq => ?_⟩⟩⟩⟩
      rcases inn q hq with rfl | hq
      · exact .head _
      · exact .tail _ (.tail _ (.tail _ (.tail _ (.tail _ hq))))
    · refine LCg.Off3.of (List.forall_mem_cons.mpr ⟨o0, fun q hq => ?_⟩)
      rcases inn q hq with rfl | hq
      · exact ⟨Nat.ne_of_gt (Nat.lt_of_lt_of_le lo.1 ley), Nat.ne_of_gt (Nat.lt_of_lt_of_le lo.2.1 ley), Nat.ne_of_gt (Nat.lt_of_lt_of_le lo.2.2.1 ley)⟩
      · exact LCg.Off3.mem off _ (.tail _ hq)
    · refine ⟨tz, new ++ [(ay, oy)], rfl, by simp [ln], by simp, fun q hq => ?_⟩
      rcases List.mem_append.mp hq with hq | hq
      · exact hn q hq
      · rw [List.mem_singleton.mp hq]
        exact ⟨⟨ky, kb0, kb1, iy⟩, Nat.ne_of_gt lay, fun p hp => Nat.ne_of_lt (Nat.lt_of_lt_of_le (allLt_mem la p (sub2 p hp)) ley)⟩
  case fin =>
    rintro ys news ⟨t3, new, rfl, ln, rfl, hn⟩
    obtain ⟨⟨a0, o0⟩, ⟨a1, o1⟩, ⟨a2, o2⟩, rfl⟩ := len3 ln
    simp only [List.map_cons, List.map_nil, List.cons_append, List.nil_append]
    obtain ⟨s0, y0, z0⟩ := hn _ (.head _)
    obtain ⟨s1, y1, z1⟩ := hn _ (.tail _ (.head _))
    obtain ⟨s2, y2, z2⟩ := hn _ (.tail _ (.tail _ (.head _)))
    have q0 : @Ne Nat (L + 1 + 1) a0 := z0 _ (.head _)
    have q1 : @Ne Nat (L + 1 + 1) a1 := z1 _ (.head _)
    have q2 : @Ne Nat (L + 1 + 1) a2 := z2 _ (.head _)
    clear hn mB' msl' nbl' mO
    k_steps
    rename News _ _ _ _ => N9
    rename Fr _ _ _ _ => F9
    rename_i D9 h9 tk9 of9 h8 o8 hd9
    have ot := off1_mem of9.2.2.2.2.2
    refine hQ _ _ t3 o8 D9 3 a0 a1 a2 o0 o1 o2 F9 (News.sub (a := (D9, listOf #[.ref a0, .ref a1, .ref a2] 3) :: (bag, listOf #[.ref sl, .int (spot + 3) t3] c2) :: (a0, o0) :: (a1, o1) :: (a2, o2) :: (L + 1 + 1, o8) :: tl) N9 ?_) hd9 s0 s1 s2 ⟨Ne.symm of9.1, y0, y1, y2⟩ ⟨Ne.symm of9.2.2.2.2.1, Ne.symm q0, Ne.symm q1, Ne.symm q2⟩ (fun p hp => ⟨ot p hp, z0 _ (.tail _ hp), z1 _ (.tail _ hp), z2 _ (.tail _ hp)⟩)
    refine List.forall_mem_cons.mpr ⟨.tail _ (.head _), List.forall_mem_cons.mpr ⟨.tail _ (.tail _ (.tail _ (.tail _ (.tail _ (.head _))))), List.forall_mem_cons.mpr ⟨.head _, List.forall_mem_cons.mpr ⟨.tail _ (.tail _ (.head _)), List.forall_mem_cons.mpr ⟨.tail _ (.tail _ (.tail _ (.head _))), List.forall_mem_cons.mpr ⟨.tail _ (.tail _ (.tail _ (.tail _ (.head _)))), fun q hq => .tail _ (.tail _ (.tail _ (.tail _ (.tail _ (.tail _ hq)))))⟩⟩⟩⟩⟩⟩
theorem ask_walk (w : World) {mean : ExcName → Option Value} {mg mb : Str → Option Value} {g : Heap} (KX : (HK w.params).In g) (T : Top VW LL mean mg mb g)
    (L f : Addr) (cdv : Value) (s : Shared) (m : Str → Option Value) (bag sl : Addr) (c2 : Nat) (spot : Int) (t1 : Tok) (oS oB : Obj) (vS : Option Value) (wl : List Value) (ns : List Int) (tl : List (Addr × Obj))
    (F : Fr g L s.heap m) (N : News g L s.heap ((bag, listOf #[.ref sl, .int spot t1] c2) :: (L + 1 + 1 + 1, oS) :: tl)) (dS : oS.data = .cell vS) (nbl : ∀ q ∈ tl, q.1 ≠ bag) (nbc : @Ne Nat (L + 1 + 1 + 1) bag) (ncl : ∀ q ∈ tl, q.1 ≠ L + 1 + 1 + 1)
    (mB : (L + 1, oB) ∈ tl) (dB : oB.data = .cell (some (.ref bag))) (msl : (sl, listOf wl.toArray 0) ∈ tl) (wI : IntsAre wl ns) (hl2 : Box (ns.length < 2 ^ 62)) (h0 : 0 ≤ spot) (h1 : spot < 900) (Q : Flow → Shared → Prop) (E : Value → Shared → Prop)
    (hQ : ∀ h' tk t3 oS' D n a0 a1 a2 o0 o1 o2, Fr g L h' m → News g L h' ((bag, listOf #[.ref sl, .int (spot + 3) t3] c2) :: (L + 1 + 1 + 1, oS') :: (D, listOf #[.ref a0, .ref a1, .ref a2] n) :: (a0, o0) :: (a1, o1) :: (a2, o2) :: tl) → oS'.data = .cell (some (.ref D)) →
      Six o0 → Six o1 → Six o2 → (@Ne Nat D bag ∧ @Ne Nat a0 bag ∧ @Ne Nat a1 bag ∧ @Ne Nat a2 bag) → (@Ne Nat D (L + 1 + 1 + 1) ∧ @Ne Nat a0 (L + 1 + 1 + 1) ∧ @Ne Nat a1 (L + 1 + 1 + 1) ∧ @Ne Nat a2 (L + 1 + 1 + 1)) → (∀ p ∈ tl, p.1 ≠ D ∧ p.1 ≠ a0 ∧ p.1 ≠ a1 ∧ p.1 ≠ a2) →
      Q .next { s with heap := h', toks := tk }) :
    wpAny (model pw w) (lawA L f cdv) (exec (lawSt 2) (lawEnv L f cdv)) Q E s := by
  unfold lawA lawEnv
  conv in lawSt 2 => whnf
  conv in (occs := *) lawScope => all_goals whnf
  have xx : Ext g g := Ext.refl _
  have hsb : g.get? sl = none := (N (sl, listOf wl.toArray 0) (.tail _ (.tail _ msl))).2.2
  have hne : @Ne Nat sl bag := nbl _ msl
  have mB' : (L + 1, oB) ∈ (L + 1 + 1 + 1, oS) :: tl := .tail _ mB
  have msl' : (sl, listOf wl.toArray 0) ∈ (L + 1 + 1 + 1, oS) :: tl := .tail _ msl
  have nbl' : ∀ q ∈ (L + 1 + 1 + 1, oS) :: tl, q.1 ≠ bag := List.forall_mem_cons.mpr ⟨nbc, nbl⟩
  have mO : (L + 1 + 1 + 1, oS) ∈ (L + 1 + 1 + 1, oS) :: tl := .head _
  k_steps
  rename IsRange _ _ _ _ _ _ _ _ => rZ
  rename News _ _ _ _ => NZ
  rename Fr _ _ _ _ => FZ
  have NZ2 : News _ _ _ ((bag, listOf #[.ref sl, .int spot t1] c2) :: ([] ++ (L + 1 + 1 + 1, oS) :: tl)) := NZ
  refine Halt.of (LCg.CompSrc.range (n := 3) (by rfl) FZ NZ2 rZ (by first | decide | rfl) (by first | rfl | decide) (by first | size_fits | exact Nat.le_of_ble_eq_true rfl) ?_)
  intro g'
  clear rZ FZ NZ2 NZ
  refine comp_ind (SJ bag sl c2 spot ((L + 1 + 1 + 1, oS) :: tl)) ⟨t1, [], by simp, rfl, rfl, fun q hq => nomatch hq⟩ ?step ?fin
  case step =>
    rintro i ys news v I oI C oC D m₂ hh tk E' hi ⟨t3, new, rfl, ln, rfl, hn⟩ ⟨t9, rfl⟩ hC hx FA NA off ne

    have offm := LCg.Off3.mem off
    obtain ⟨tl2, etl⟩ : ∃ tl2, tl2 = new ++ (L + 1 + 1 + 1, oS) :: tl := ⟨_, rfl⟩
    rw [← etl] at NA off
    have sub2 : ∀ q ∈ (L + 1 + 1 + 1, oS) :: tl, q ∈ tl2 := fun q hq => etl ▸ List.mem_append_right _ hq
    have mB2 := sub2 _ mB'
    have msl2 := sub2 _ msl'
    have nb2 : ∀ q ∈ tl2, q.1 ≠ bag := fun q hq => by
      rw [etl] at hq
      rcases List.mem_append.mp hq with hq | hq
      · exact (hn q hq).2.1
      · exact nbl' q hq
    have o0 := LCg.Off3.mem off _ (.head _)
    have nI : @Ne Nat I bag := Ne.symm o0.1
    have nC : @Ne Nat C bag := Ne.symm o0.2.1
    have nD : @Ne Nat D bag := Ne.symm o0.2.2
    clear mB msl nbl nbc ncl dS mB' msl' nbl' mO
    k_steps
    rename_i Dl b0 b1 b2 b3 b4 b5 e0 e1 e2 e3 e4 e5 nl hw tw Fw Nw i0 i1 i2 i3 i4 i5 ch lo cE
    have lb : @LT.lt Nat _ bag b0 := lo.2.2.2.1
    have la := lo.2.2.2.2
    obtain ⟨x0, x1, x2, x3, x4, x5, x6⟩ := six_ne lb ch
    refine Halt.of (choice_line Fw Nw KX T xx (by k_updF) (News.get Nw (by k_mem)) hsb hne wI hl2.out (by omega) (by omega) (by decide) (by decide) (by exact rfl) (by exact Nat.le_of_ble_eq_true rfl) (by exact Nat.le_of_ble_eq_true rfl) ?_)
    intro ky ty hy tky tz kb0 kb1 Fy Ny
    (try dsimp only at Ny)
    clear Fw Nw
    k_steps
    rename_i ay oy Ny9 iy ley
    have lay : @LT.lt Nat _ bag ay := Nat.lt_of_lt_of_le lb ley
    have inn : ∀ q ∈ (new ++ [(ay, oy)]) ++ (L + 1 + 1 + 1, oS) :: tl, q = (ay, oy) ∨ q ∈ tl2 := fun q hq => by
      rw [etl]
      rcases List.mem_append.mp hq with hq | hq
      · rcases List.mem_append.mp hq with hq | hq
        · exact .inr (List.mem_append_left _ hq)
        · exact .inl (List.mem_singleton.mp hq)
      · exact .inr (List.mem_append_right _ hq)
    have eB : spot + (i : Int) + 1 = spot + ((i + 1 : Nat) : Int) := by omega
    rw [eB] at Ny9
    refine Halt.of (LCg.CompEnd.intro Fy Ny9 ((bag, listOf #[.ref sl, .int (spot + ((i + 1 : Nat) : Int)) tz] c2) :: ((new ++ [(ay, oy)]) ++ (L + 1 + 1 + 1, oS) :: tl)) ?_ ?_ trivial ?_)
    · refine List.forall_mem_cons.mpr ⟨.tail _ (.head _), List.forall_mem_cons.mpr ⟨.tail _ (.tail _ (.head _)), List.forall_mem_cons.mpr ⟨.tail _ (.tail _ (.tail _ (.head _))), List.forall_mem_cons.mpr ⟨.tail _ (.tail _ (.tail _ (.tail _ (.head _)))), fun q hq => ?_⟩⟩⟩⟩
      rcases inn q hq with rfl | hq
      · exact .head _
      · exact .tail _ (.tail _ (.tail _ (.tail _ (.tail _ hq))))
    · refine LCg.Off3.of (List.forall_mem_cons.mpr ⟨o0, fun q hq => ?_⟩)
      rcases inn q hq with rfl | hq
      · exact ⟨Nat.ne_of_gt (Nat.lt_of_lt_of_le lo.1 ley), Nat.ne_of_gt (Nat.lt_of_lt_of_le lo.2.1 ley), Nat.ne_of_gt (Nat.lt_of_lt_of_le lo.2.2.1 ley)⟩
      · exact LCg.Off3.mem off _ (.tail _ hq)
    · refine ⟨tz, new ++ [(ay, oy)], rfl, by simp [ln], by simp, fun q hq => ?_⟩
      rcases List.mem_append.mp hq with hq | hq
      · exact hn q hq
      · rw [List.mem_singleton.mp hq]
        exact ⟨⟨ky, kb0, kb1, iy⟩, Nat.ne_of_gt lay, fun p hp => Nat.ne_of_lt (Nat.lt_of_lt_of_le (allLt_mem la p (sub2 p hp)) ley)⟩
  case fin =>
    rintro ys news ⟨t3, new, rfl, ln, rfl, hn⟩
    obtain ⟨⟨a0, o0⟩, ⟨a1, o1⟩, ⟨a2, o2⟩, rfl⟩ := len3 ln
    simp only [List.map_cons, List.map_nil, List.cons_append, List.nil_append]
    obtain ⟨s0, y0, z0⟩ := hn _ (.head _)
    obtain ⟨s1, y1, z1⟩ := hn _ (.tail _ (.head _))
    obtain ⟨s2, y2, z2⟩ := hn _ (.tail _ (.tail _ (.head _)))
    have q0 : @Ne Nat (L + 1 + 1 + 1) a0 := z0 _ (.head _)
    have q1 : @Ne Nat (L + 1 + 1 + 1) a1 := z1 _ (.head _)
    have q2 : @Ne Nat (L + 1 + 1 + 1) a2 := z2 _ (.head _)
    clear hn mB' msl' nbl' mO
    k_steps
    rename News _ _ _ _ => N9
    rename Fr _ _ _ _ => F9
    rename_i D9 h9 tk9 of9 h8 o8 hd9
    have ot := off1_mem of9.2.2.2.2.2
    refine hQ _ _ t3 o8 D9 3 a0 a1 a2 o0 o1 o2 F9 (News.sub (a := (D9, listOf #[.ref a0, .ref a1, .ref a2] 3) :: (bag, listOf #[.ref sl, .int (spot + 3) t3] c2) :: (a0, o0) :: (a1, o1) :: (a2, o2) :: (L + 1 + 1 + 1, o8) :: tl) N9 ?_) hd9 s0 s1 s2 ⟨Ne.symm of9.1, y0, y1, y2⟩ ⟨Ne.symm of9.2.2.2.2.1, Ne.symm q0, Ne.symm q1, Ne.symm q2⟩ (fun p hp => ⟨ot p hp, z0 _ (.tail _ hp), z1 _ (.tail _ hp), z2 _ (.tail _ hp)⟩)
    refine List.forall_mem_cons.mpr ⟨.tail _ (.head _), List.forall_mem_cons.mpr ⟨.tail _ (.tail _ (.tail _ (.tail _ (.tail _ (.head _))))), List.forall_mem_cons.mpr ⟨.head _, List.forall_mem_cons.mpr ⟨.tail _ (.tail _ (.head _)), List.forall_mem_cons.mpr ⟨.tail _ (.tail _ (.tail _ (.head _))), List.forall_mem_cons.mpr ⟨.tail _ (.tail _ (.tail _ (.tail _ (.head _)))), fun q hq => .tail _ (.tail _ (.tail _ (.tail _ (.tail _ (.tail _ hq)))))⟩⟩⟩⟩⟩⟩
end
/-- a grid that can be read and written by its word; its items lie at `it` -/
def GrF (w : World) (tl : List (Addr × Obj)) (ws it : Addr) (word : Str) : Prop :=
  ∃ (kvs : List (Str × Value)) (wd ar g gd hl : Addr) (es es' : List DictEntry) (n n' n2 : Nat) (oar : Obj) (t1 t2 t5 t8 t9 ta : Tok),
    (∀ q ∈ [(ws, instObj 216 wd), (wd, dictOf es n), (ar, oar), (g, instObj 138 gd), (gd, dictOf es' n'), (hl, listOf #[.int 2 t1, .int 2 t2] n2)], q ∈ tl) ∧
    getL (Str.ofString "arrays") es = some (some (.ref ar)) ∧ getL (Str.ofString "bits") es = some (some (.int 16 t8)) ∧ getL (Str.ofString "digits") es = some (some (.int 9 t9)) ∧ (ar == sysModules) = false ∧
    Obj.IsDictOf (PySem.strKind pw w) oar kvs ∧ valueAt kvs word = some (.ref g) ∧ getL (Str.ofString "kind") es' = some (some (.str (Str.ofString "whole") ta)) ∧
    getL (Str.ofString "highs") es' = some (some (.ref hl)) ∧ getL (Str.ofString "base") es' = some (some (.int 0 t5)) ∧ getL (Str.ofString "items") es' = some (some (.ref it))
theorem GrF.mono {w : World} {tl tl' : List (Addr × Obj)} {ws it : Addr} {word : Str} (G : GrF w tl ws it word) (s : ∀ q ∈ tl, q ∈ tl') : GrF w tl' ws it word := by
  obtain ⟨kvs, wd, ar, g, gd, hl, es, es', n, n', n2, oar, t1, t2, t5, t8, t9, ta, M, r⟩ := G
  exact ⟨kvs, wd, ar, g, gd, hl, es, es', n, n', n2, oar, t1, t2, t5, t8, t9, ta, fun q hq => s q (M q hq), r⟩
theorem mu_in {h₀ h : Heap} {L : Addr} {news l : List (Addr × Obj)} (N : News h₀ L h news) (s : ∀ q ∈ l, q ∈ news) : Mu h₀ h l := fun q hq => ⟨(N q (s q hq)).1, (N q (s q hq)).2.2⟩
theorem GrF.get {w : World} {tl : List (Addr × Obj)} {ws it : Addr} {word : Str} (G : GrF w tl ws it word) {g h : Heap} {L : Addr} {news : List (Addr × Obj)} (N : News g L h news) (s : ∀ q ∈ tl, q ∈ news) {vs : List Value} {ns : List Int} {n3 : Nat}
    (hm : (it, listOf vs.toArray n3) ∈ news) (hi : IntsAre vs ns) (hl : ns.length = 9) : GetAt w g h ws word ns := by
  obtain ⟨kvs, wd, ar, gg, gd, hl', es, es', n, n', n2, oar, t1, t2, t5, t8, t9, ta, M, a1, a2, a3, a4, a5, a6, a7, a8, a9, a10⟩ := G
  refine ⟨kvs, wd, ar, gg, gd, hl', it, es, es', n, n', n2, n3, oar, vs, t1, t2, t5, mu_in N ?_, a1, a4, a5, a6, a8, a9, a10, hi, hl⟩
  have M' : ∀ q ∈ [(ws, instObj 216 wd), (wd, dictOf es n), (ar, oar), (gg, instObj 138 gd), (gd, dictOf es' n'), (hl', listOf #[.int 2 t1, .int 2 t2] n2)], q ∈ news := fun q hq => s q (M q hq)
  simp only [List.forall_mem_cons] at M' ⊢
  obtain ⟨m1, m2, m3, m4, m5, m6, _⟩ := M'
  exact ⟨m1, m2, m3, m4, m5, m6, hm, fun q hq => nomatch hq⟩
theorem set_line {w : World} {mean : ExcName → Option Value} {mg mb : Str → Option Value} {A : Around} {E : Value → Shared → Prop} {Q : Value → Shared → Prop} {s : Shared} {h₀ : Heap} {L : Addr} {m : Str → Option Value} {tl news : List (Addr × Obj)} {gU : Obj → List (Addr × Obj)} {ws it sb : Addr} {word : Str} {vs : List Value} {ns : List Int} {who place val : Int} {t3 t4 t6 t7 : Tok} {n3 n4 : Nat}
    (F : Fr h₀ L s.heap m) (N : News h₀ L s.heap news) (KX : (HK w.params).In h₀) (T : Top VW LL mean mg mb h₀) (G : GrF w tl ws it word) (sub : ∀ q ∈ tl, q ∈ news) (off : ∀ q ∈ tl, q.1 ≠ it) (U : UpdF it (listOf vs.toArray n3) news gU)
    (hsb : (sb, listOf #[.int who t3, .int place t4] n4) ∈ news) (nsb : @Ne Nat sb it) (hi : IntsAre vs ns) (hlen : ns.length = 9) (h0 : 0 ≤ who) (h1 : who ≤ 2) (h2 : 0 ≤ place) (h3 : place ≤ 2) (h4 : 0 ≤ val) (h5 : val ≤ 2)
    (hh : A.handled = none) (e1 : A.depth ≤ 800) (e2 : A.units ≤ 3000)
    (h : ∀ t h' tk, Fr h₀ L h' m → News h₀ L h' (gU (listOf (vs.set (3 * who + place).toNat (.int val t)).toArray n3)) → Q .none { s with heap := h', toks := tk }) :
    wpAny (model pw w) A (call (.ref 198) [.ref ws, .str word t6, .ref sb, .int val t7]) Q E s := by
  obtain ⟨kvs, wd, ar, g, gd, hl, es, es', n, n', n2, oar, t1, t2, t5, t8, t9, ta, M, a1, a2, a3, a4, a5, a6, a7, a8, a9, a10⟩ := G
  have hit : (it, listOf vs.toArray n3) ∈ news := by
    obtain ⟨own, rest, rfl, _⟩ := U.split
    exact List.mem_append_right _ (.head _)
  have M1 := M
  simp only [List.forall_mem_cons] at M1
  obtain ⟨m1, m2, m3, m4, m5, m6, _⟩ := M1
  refine md_use (P := fun v => v = Value.none) (O := fun o => ∃ t, o = listOf (vs.set (3 * who + place).toNat (.int val t)).toArray n3)
    (set_walk w KX T s F.keep word kvs ws wd ar g gd hl it sb es es' n n' n2 n3 n4 oar vs ns t1 t2 t3 t4 t5 t6 t7 t8 t9 ta who place val (mu_in N ?_) ⟨off _ m1, off _ m2, off _ m3, off _ m4, off _ m5, off _ m6, nsb⟩ a1 a2 a3 a4 a5 a6 a7 a8 a9 a10 hi hlen h0 h1 h2 h3 h4 h5 _
      (fun h' tk t x hg => ⟨rfl, _, ⟨t, rfl⟩, h', tk, rfl, x, hg⟩)) hh e1 e2 F N U (fun v h' tk o' hv ho F' N' => ?_)
  · simp only [List.forall_mem_cons]
    exact ⟨sub _ m1, sub _ m2, sub _ m3, sub _ m4, sub _ m5, sub _ m6, hit, hsb, fun q hq => nomatch hq⟩
  · obtain ⟨t, rfl⟩ := ho
    subst hv
    exact h t h' tk F' N'
/-- three names known, the rest as it is -/
abbrev nmF (ws oL : Addr) (word : Str) (t : Tok) (m : Str → Option Value) : Str → Option Value := fun y => if y = Str.ofString "world" then some (.ref ws) else if y = Str.ofString "word" then some (.str word t) else if y = Str.ofString "orders" then some (.ref oL) else m y
theorem nmF_self {ws oL : Addr} {word : Str} {t : Tok} {m : Str → Option Value} (a : m (Str.ofString "world") = some (.ref ws)) (b : m (Str.ofString "word") = some (.str word t)) (c : m (Str.ofString "orders") = some (.ref oL)) (y : Str) : m y = nmF ws oL word t m y := by
  unfold nmF
  by_cases e : y = Str.ofString "world"
  · rw [if_pos e, e, a]
  · rw [if_neg e]
    by_cases e : y = Str.ofString "word"
    · rw [if_pos e, e, b]
    · rw [if_neg e]
      by_cases e : y = Str.ofString "orders"
      · rw [if_pos e, e, c]
      · rw [if_neg e]
/-- the items laid so far -/
def Laid (S : Int → Int → Int) (upto : Int) (ns : List Int) : Prop := ns.length = 9 ∧ ∀ a b : Int, 0 ≤ a → a ≤ 2 → 0 ≤ b → b ≤ 2 → 3 * a + b < upto → ns.getD (3 * a + b).toNat 0 = S a b
theorem Laid.next {S : Int → Int → Int} {ns : List Int} {who place upto : Int} (l : Laid S upto ns) (e : upto = 3 * who + place) (h0 : 0 ≤ who) (h1 : who ≤ 2) (h2 : 0 ≤ place) (h3 : place ≤ 2) : Laid S (upto + 1) (ns.set (3 * who + place).toNat (S who place)) := by
  refine ⟨by rw [List.length_set]; exact l.1, fun a b a0 a1 b0 b1 lt => ?_⟩
  rw [List.getD_eq_getElem?_getD, List.getElem?_set]
  by_cases q : 3 * a + b = 3 * who + place
  · have e1 : a = who := by omega
    have e2 : b = place := by omega
    subst e1 e2
    rw [if_pos rfl, if_pos (by rw [l.1]; omega)]
    rfl
  · rw [if_neg (by omega), ← List.getD_eq_getElem?_getD]
    exact l.2 a b a0 a1 b0 b1 (by omega)
theorem ints_set {vs : List Value} {ns : List Int} {a : Int} {t : Tok} (h : IntsAre vs ns) : ∀ k, IntsAre (vs.set k (.int a t)) (ns.set k a) := by
  induction h with
  | nil => intro k; exact .nil
  | cons n t h ih =>
    intro k
    cases k with
    | zero => exact .cons _ _ h
    | succ k => exact .cons _ _ (ih k)
def fillBody : List Stmt := match lawSt 3 with
  | .For _ _ b _ _ => b
  | _ => []
def fillSt (k : Nat) : Stmt := fillBody.getD k default
local macro_rules | `(tactic| walk_at "ite") => `(tactic| (k_here; k_openite; first | (refine ite_pos (by simp only [two16]; simp only [decide_eq_true_eq]; omega) ?_) | (refine ite_neg (by simp only [two16]; simp only [decide_eq_true_eq]; omega) ?_)))
theorem nmF_push {ws oL : Addr} {word : Str} {t : Tok} {m : Str → Option Value} {x : Str} {v : Option Value} (a : x ≠ Str.ofString "world") (b : x ≠ Str.ofString "word") (c : x ≠ Str.ofString "orders") (y : Str) : (if y = x then v else nmF ws oL word t m y) = nmF ws oL word t (fun y => if y = x then v else m y) y := by
  unfold nmF
  by_cases e : y = x
  · subst e
    rw [if_pos rfl, if_neg a, if_neg b, if_neg c]
    exact (if_pos rfl).symm
  · simp only [if_neg e]
theorem wh_place {ws oL : Addr} {word : Str} {t : Tok} {m : Str → Option Value} {v u : Option Value} (y : Str) : (if y = Str.ofString "place" then v else if y = Str.ofString "who" then u else nmF ws oL word t m y) = (if y = Str.ofString "who" then u else nmF ws oL word t (fun y => if y = Str.ofString "place" then v else m y) y) := by
  by_cases e : y = Str.ofString "who"
  · subst e
    rw [if_neg (by decide)]
    rfl
  · rw [if_neg e, if_neg e]
    exact nmF_push (by decide) (by decide) (by decide) y
section
local macro_rules | `(tactic| walk_at "RangeRest") => `(tactic| refine Halt.mk ?_) -- here
local macro_rules | `(tactic| walk_at "UnrEnd") => `(tactic| refine Halt.mk ?_) -- here
local macro_rules | `(tactic| walk_at "call ref") => `(tactic| ((with_reducible show wpAny _ _ (call (Value.ref 198) _) _ _ _); refine Halt.mk ?_)) -- here
theorem fill_inner (w : World) {mean : ExcName → Option Value} {mg mb : Str → Option Value} {g : Heap} (KX : (HK w.params).In g) (T : Top VW LL mean mg mb g)
    (L f : Addr) (cdv : Value) (s : Shared) (m : Str → Option Value) (ws it oL a0 a1 a2 : Addr) (o0 o1 o2 : Obj) (n n3 : Nat) (word : Str) (t : Tok) (S : Int → Int → Int) (vs : List Value) (ns : List Int) (tl : List (Addr × Obj))
    (F : Fr g L s.heap (nmF ws oL word t m)) (N : News g L s.heap ((it, listOf vs.toArray n3) :: tl)) (G : GrF w tl ws it word) (off : ∀ q ∈ tl, q.1 ≠ it) (mo : (oL, listOf #[.ref a0, .ref a1, .ref a2] n) ∈ tl)
    (m0 : (a0, o0) ∈ tl) (m1 : (a1, o1) ∈ tl) (m2 : (a2, o2) ∈ tl) (i0 : IsT3 o0 (S 0 0) (S 0 1) (S 0 2)) (i1 : IsT3 o1 (S 1 0) (S 1 1) (S 1 2)) (i2 : IsT3 o2 (S 2 0) (S 2 1) (S 2 2)) (HP : ∀ i, 0 ≤ i → i ≤ 2 → Pm (S i 0) (S i 1) (S i 2))
    (hi : IntsAre vs ns) (hl : ns.length = 9) (Q : Flow → Shared → Prop)
    (hQ : ∀ h' tk m' vs' ns', Fr g L h' (nmF ws oL word t m') → News g L h' ((it, listOf vs'.toArray n3) :: tl) → IntsAre vs' ns' → Laid S 9 ns' → Q .next { s with heap := h', toks := tk }) :
    wpAny (model pw w) (lawA L f cdv) (exec (fillSt 1) (lawEnv L f cdv)) Q (fun _ _ => False) s := by
  unfold lawA lawEnv
  conv in fillSt 1 => whnf
  conv in (occs := *) lawScope => all_goals whnf
  k_steps
  rename_i iO lO
  refine range_ind (J := fun i m news => (∃ m', ∀ y, m y = nmF ws oL word t m' y) ∧ ∃ vs ns, (∀ q ∈ (it, listOf vs.toArray n3) :: tl, q ∈ news) ∧ IntsAre vs ns ∧ Laid S (3 * i) ns) ?st ?sp ?fi
  case st => exact ⟨⟨m, fun _ => rfl⟩, vs, ns, fun _ h => h, hi, hl, fun a b a0 a1 b0 b1 lt => absurd lt (by omega)⟩
  case fi =>
    rintro m' news h tk ⟨⟨mm, e1⟩, vs1, ns1, sub, hi1, hl1⟩ F1 N1
    have F2 : Fr g L h (nmF ws oL word t mm) := Fr.congr F1 e1
    have N2 := News.sub N1 sub
    clear F1 N1 sub
    k_steps
    exact hQ _ _ _ _ _ F2 N2 hi1 hl1
  case sp =>
    rintro i m' news tw h tk hi' ⟨⟨mm, e1⟩, vs1, ns1, sub, hi1, hl1⟩ F1 N1
    have F2 : Fr g L h (fun y => if y = Str.ofString "who" then some (Value.int (0 + (i : Int)) tw) else nmF ws oL word t mm y) := Fr.congr F1 (fun y => if_at (e1 y))
    have N2 := News.sub1 N1 sub
    clear F1 N1 sub
    k_steps
    rename_i iJ lJ
    have oO : ∀ vs, ∀ q ∈ (it, listOf (vs : List Value).toArray n3) :: tl, q.1 ≠ iO := fun vs => List.forall_mem_cons.mpr ⟨Nat.ne_of_lt lO.1, fun q hq => Nat.ne_of_lt (allLt_mem lO.2 q hq)⟩
    have oJ : ∀ vs, ∀ q ∈ (iO, itR (0 + ((i + 1 : Nat) : Int)) (((3 : Nat) : Int) - ((i + 1 : Nat) : Int))) :: (it, listOf (vs : List Value).toArray n3) :: tl, q.1 ≠ iJ := fun vs => List.forall_mem_cons.mpr ⟨Nat.ne_of_lt lJ.1, List.forall_mem_cons.mpr ⟨Nat.ne_of_lt lJ.2.1, fun q hq => Nat.ne_of_lt (allLt_mem lJ.2.2 q hq)⟩⟩
    refine range_ind (J := fun j m news => (∃ m', ∀ y, m y = (if y = Str.ofString "who" then some (Value.int (0 + (i : Int)) tw) else nmF ws oL word t m' y)) ∧ ∃ vs ns, (∀ q ∈ (iO, itR (0 + ((i + 1 : Nat) : Int)) (((3 : Nat) : Int) - ((i + 1 : Nat) : Int))) :: (it, listOf vs.toArray n3) :: tl, q ∈ news) ∧ IntsAre vs ns ∧ Laid S (3 * i + j) ns) ?st2 ?sp2 ?fi2
    case st2 => exact ⟨⟨mm, fun _ => rfl⟩, vs1, ns1, fun _ h => h, by assumption, by simpa using hl1⟩
    case fi2 =>
      rintro m' news h tk ⟨⟨mm2, e2⟩, vs2, ns2, sub, hi2, hl2⟩ F1 N1
      have F3 := Fr.congr F1 e2
      have N3 := News.sub N1 sub
      clear F1 N1 sub
      k_steps
      have e9 : (3 : Int) * ((i + 1 : Nat) : Int) = 3 * i + ((3 : Nat) : Int) := by omega
      refine Halt.of (UnrEnd.intro F3 N3 ((it, listOf vs2.toArray n3) :: tl) (fun _ h => h) (oO vs2) ⟨⟨_, fun y => nmF_push (by decide) (by decide) (by decide) y⟩, vs2, ns2, fun _ h => h, hi2, e9 ▸ hl2⟩)
    case sp2 =>
      rintro j m' news tp h tk hj ⟨⟨mm2, e2⟩, vs2, ns2, sub, hi2, hl2⟩ F1 N1
      have F3 : Fr g L h (fun y => if y = Str.ofString "who" then some (Value.int (0 + (i : Int)) tw) else nmF ws oL word t (fun y => if y = Str.ofString "place" then some (Value.int (0 + (j : Int)) tp) else mm2 y) y) := Fr.congr F1 (fun y => by
        refine Eq.trans ?_ (wh_place y)
        rw [e2 y])
      have N3 := News.sub1 N1 sub
      clear F1 N1 sub
      k_steps
      rename_i sb hA F9 NS lsb aR oR N9 iR PR tv
      refine Halt.of (set_line F9 NS KX T G (fun q hq => .tail _ (.tail _ (.tail _ (.tail _ hq)))) off (by k_updF) (by k_mem) (Nat.ne_of_gt lsb.2.2.1) hi2 hl2.1 (by omega) (by omega) (by omega) (by omega) (PR.pk_lo _) (PR.pk_hi _) (by exact rfl) (by exact Nat.le_of_ble_eq_true rfl) (by exact Nat.le_of_ble_eq_true rfl) ?_)
      intro tv' h9 tk9 F10 N10
      (try dsimp only at N10)
      clear F9 NS N9
      k_steps
      have eS : pk (0 + (j : Int)) (S (0 + (i : Int)) 0) (S (0 + (i : Int)) 1) (S (0 + (i : Int)) 2) = S (0 + (i : Int)) (0 + (j : Int)) := pk_fn (f := S (0 + (i : Int))) (by omega) (by omega)
      have e9 : (3 : Int) * i + ((j + 1 : Nat) : Int) = 3 * i + j + 1 := by omega
      refine Halt.of (UnrEnd.intro F10 N10 ((iO, itR (0 + ((i + 1 : Nat) : Int)) (((3 : Nat) : Int) - ((i + 1 : Nat) : Int))) :: (it, listOf (vs2.set (3 * (0 + (i : Int)) + (0 + (j : Int))).toNat (Value.int (pk (0 + (j : Int)) (S (0 + (i : Int)) 0) (S (0 + (i : Int)) 1) (S (0 + (i : Int)) 2)) tv')).toArray n3) :: tl) (fun q hq => .tail _ hq) (oJ _) ⟨⟨_, fun y => rfl⟩, _, _, fun _ h => h, ints_set hi2 _, ?_⟩)
      rw [e9, eS]
      exact Laid.next hl2 (by omega) (by omega) (by omega) (by omega) (by omega)
end
def FillQ (w : World) (g : Heap) (L : Addr) (ws wd : Addr) (es : List DictEntry) (c : Nat) (S B : Int → Int → Int) (tl : List (Addr × Obj)) (s : Shared) (Q : Flow → Shared → Prop) : Prop :=
  ∀ h' tk m' new nsW nsX, Fr g L h' m' → m' (Str.ofString "world") = some (.ref ws) → News g L h' (new ++ tl) → (∀ q ∈ new, ∀ p ∈ tl, p.1 ≠ q.1) →
    (∀ h L tl', (∀ q ∈ new, q ∈ tl') → (ws, instObj 216 wd) ∈ tl' → (wd, dictOf es c) ∈ tl' → News g L h tl' → GetAt w g h ws (Str.ofString "W%") nsW ∧ GetAt w g h ws (Str.ofString "X%") nsX) → Laid S 9 nsW → Laid B 9 nsX → Q .next { s with heap := h', toks := tk }
theorem dim_line {w : World} {word : Str} (hk : KindOk w word) {mean : ExcName → Option Value} {mg mb : Str → Option Value} {A : Around} {E : Value → Shared → Prop} {Q : Value → Shared → Prop} {s : Shared} {h₀ : Heap} {L : Addr} {m : Str → Option Value} {news : List (Addr × Obj)} {gU : Obj → List (Addr × Obj)}
    {kvs : List (Str × Value)} {ws wd ar hs ki : Addr} {es : List DictEntry} {n n2 : Nat} {oar : Obj} {t1 t2 t6 t5 t8 : Tok}
    (F : Fr h₀ L s.heap m) (N : News h₀ L s.heap news) (KX : (HK w.params).In h₀) (T : Top VW LL mean mg mb h₀) (U : UpdF ar oar news gU) (m1 : (ws, instObj 216 wd) ∈ news) (m2 : (wd, dictOf es n) ∈ news) (m3 : (hs, listOf #[.int 2 t1, .int 2 t2] n2) ∈ news)
    (ne : @Ne Nat ws ar ∧ @Ne Nat wd ar ∧ @Ne Nat hs ar) (ha : getL (Str.ofString "arrays") es = some (some (.ref ar))) (hbb : getL (Str.ofString "base") es = some (some (.int 0 t5))) (hrm : getL (Str.ofString "room") es = some (some (.int 2000 t8))) (hkk : getL (Str.ofString "kinds") es = some (some (.ref ki))) (lo : (ar == sysModules) = false)
    (har : Obj.IsDictOf (PySem.strKind pw w) oar kvs) (hw : valueAt kvs word = none) (hkl : kvs.length ≤ 5) (hh : A.handled = none) (e1 : A.depth ≤ 800) (e2 : A.units ≤ 3000)
    (h : ∀ h' tk o' g gd hl it es' n' c t1 t2 tz tb ta, Fr h₀ L h' m → News h₀ L h' ([(it, listOf (List.replicate 9 (Value.int 0 tz)).toArray 0), (hl, listOf #[.int 2 t1, .int 2 t2] c), (g, instObj 138 gd), (gd, dictOf es' n')] ++ gU o') → Obj.IsDictOf (PySem.strKind pw w) o' (stored kvs word (.ref g)) →
      (∀ p ∈ news, @Ne Nat p.1 it ∧ @Ne Nat p.1 hl ∧ @Ne Nat p.1 g ∧ @Ne Nat p.1 gd) → (@LT.lt Nat _ gd g ∧ @LT.lt Nat _ g hl ∧ @LT.lt Nat _ hl it) →
      getL (Str.ofString "kind") es' = some (some (.str (Str.ofString "whole") ta)) → getL (Str.ofString "highs") es' = some (some (.ref hl)) → getL (Str.ofString "base") es' = some (some (.int 0 tb)) → getL (Str.ofString "items") es' = some (some (.ref it)) →
      Q .none { s with heap := h', toks := tk }) :
    wpAny (model pw w) A (call (.ref 170) [.ref ws, .str word t6, .ref hs]) Q E s := by
  have m4 : (ar, oar) ∈ news := by
    obtain ⟨own, rest, rfl, _⟩ := U.split
    exact List.mem_append_right _ (.head _)
  refine wk hh e1 e2 (wpAny_mono (dim_walk w word hk KX T s F.keep kvs ws wd ar hs ki es n n2 oar t1 t2 t6 t5 t8 (mu_in N ?_) ne ha hbb hrm hkk lo har hw hkl Q
    (fun h' tk o' g gd hl it es' n' c t1 t2 tz tb ta x hg hd M or a1 a2 a3 a4 => ?_)) (fun _ _ q => q) fun _ _ q => q.elim)
  · simp only [List.forall_mem_cons]
    exact ⟨m1, m2, m4, m3, fun q hq => nomatch hq⟩
  · have far : ∀ q ∈ [(gd, dictOf es' n'), (g, instObj 138 gd), (hl, listOf #[.int 2 t1, .int 2 t2] c), (it, listOf (List.replicate 9 (Value.int 0 tz)).toArray 0)], ∀ p ∈ news, p.1 ≠ q.1 := fun q hq p hp e => by
      have z := (M q hq).2
      rw [← e, (N p hp).1] at z
      cases z
    have farL : ∀ q ∈ [(gd, dictOf es' n'), (g, instObj 138 gd), (hl, listOf #[.int 2 t1, .int 2 t2] c), (it, listOf (List.replicate 9 (Value.int 0 tz)).toArray 0)], q.1 ≠ L := fun q hq e => by
      have z := (M q hq).2
      obtain ⟨oL, _, _, hL, _⟩ := F.ns
      rw [e, hL] at z
      cases z
    have far0 : ∀ q ∈ [(gd, dictOf es' n'), (g, instObj 138 gd), (hl, listOf #[.int 2 t1, .int 2 t2] c), (it, listOf (List.replicate 9 (Value.int 0 tz)).toArray 0)], h₀.get? q.1 = none := fun q hq => by
      cases e : h₀.get? q.1 with
      | none => rfl
      | some o =>
        have z := (M q hq).2
        rw [F.keep _ _ e] at z
        cases z
    have N' : ∀ q ∈ [(gd, dictOf es' n'), (g, instObj 138 gd), (hl, listOf #[.int 2 t1, .int 2 t2] c), (it, listOf (List.replicate 9 (Value.int 0 tz)).toArray 0)], h'.get? q.1 = some q.2 ∧ q.1 ≠ L ∧ h₀.get? q.1 = none := fun q hq => ⟨(M q hq).1, farL q hq, far0 q hq⟩
    have MD : Md ar o' s { s with heap := h', toks := tk } := ⟨h', tk, rfl, x, hg⟩
    obtain ⟨own, rest, rfl, hgg, n1, n2⟩ := U.split
    have hm := N (ar, oar) m4
    have k : ∀ b ob, s.heap.get? b = some ob → b ≠ ar → h'.get? b = some ob := fun b ob e n => x b ob e (fun q => n (List.mem_singleton.mp q))
    have F' : Fr h₀ L h' m := ⟨F.ns.at fun ob e => k _ _ e hm.2.1.symm, fun b ob e => k b ob (F.keep b ob e) (fun q => by rw [q, hm.2.2] at e; cases e), F.above⟩
    have NU : News h₀ L h' (gU o') := by
      rw [hgg]
      intro q hq
      rcases List.mem_append.mp hq with hq | hq
      · have z := N q (List.mem_append_left _ hq)
        exact ⟨k _ _ z.1 (n1 q hq), z.2⟩
      · rcases List.mem_cons.mp hq with rfl | hq
        · exact ⟨hg, hm.2⟩
        · have z := N q (List.mem_append_right _ (.tail _ hq))
          exact ⟨k _ _ z.1 (n2 q hq), z.2⟩
    refine h h' tk o' g gd hl it es' n' c t1 t2 tz tb ta F' (fun q hq => ?_) hd (fun p hp => ⟨far _ (.tail _ (.tail _ (.tail _ (.head _)))) p hp, far _ (.tail _ (.tail _ (.head _))) p hp, far _ (.tail _ (.head _)) p hp, far _ (.head _) p hp⟩) or a1 a2 a3 a4
    rcases List.mem_append.mp hq with hq | hq
    · simp only [List.mem_cons, List.not_mem_nil, or_false] at hq
      rcases hq with rfl | rfl | rfl | rfl
      · exact N' _ (.tail _ (.tail _ (.tail _ (.head _))))
      · exact N' _ (.tail _ (.tail _ (.head _)))
      · exact N' _ (.tail _ (.head _))
      · exact N' _ (.head _)
    · exact NU q hq
abbrev nmW (ws : Addr) (m : Str → Option Value) : Str → Option Value := fun y => if y = Str.ofString "world" then some (.ref ws) else m y
theorem nmW_self {ws : Addr} {m : Str → Option Value} (a : m (Str.ofString "world") = some (.ref ws)) (y : Str) : m y = nmW ws m y := by
  unfold nmW
  by_cases e : y = Str.ofString "world"
  · rw [if_pos e, e, a]
  · rw [if_neg e]
section
local macro_rules | `(tactic| walk_at "exec For Name Call cons nil") => `(tactic| refine Halt.mk ?_) -- here
local macro_rules | `(tactic| walk_at "call ref") => `(tactic| ((with_reducible show wpAny _ _ (call (Value.ref 170) _) _ _ _); refine Halt.mk ?_)) -- here
theorem tail_of {g h : Heap} {L : Addr} {x : Addr × Obj} {t : List (Addr × Obj)} (N : News g L h (x :: t)) : ∃ t', t' = t ∧ News g L h (x :: t') := ⟨t, rfl, N⟩
theorem ints_rep (t : Tok) : ∀ n, IntsAre (List.replicate n (Value.int 0 t)) (List.replicate n 0)
  | 0 => .nil
  | n + 1 => .cons 0 t (ints_rep t n)
theorem fill_walk (w : World) {mean : ExcName → Option Value} {mg mb : Str → Option Value} {g : Heap} (KX : (HK w.params).In g) (T : Top VW LL mean mg mb g)
    (L f : Addr) (cdv : Value) (s : Shared) (m : Str → Option Value) (ws wd ar ki su as a0 a1 a2 b0 b1 b2 : Addr) (oar oS oA o0 o1 o2 d0 d1 d2 : Obj) (es : List DictEntry) (c n1 n2 : Nat) (t2 t3 t4 t5 : Tok) (S B : Int → Int → Int) (tl : List (Addr × Obj))
    (F : Fr g L s.heap m) (mw : m (Str.ofString "world") = some (.ref ws)) (N : News g L s.heap ((ar, oar) :: tl)) (off : ∀ q ∈ tl, q.1 ≠ ar) (har : Obj.IsDictOf (PySem.strKind pw w) oar []) (lo : (ar == sysModules) = false)
    (mws : (ws, instObj 216 wd) ∈ tl) (mwd : (wd, dictOf es c) ∈ tl)
    (g1 : getL (Str.ofString "arrays") es = some (some (.ref ar))) (g2 : getL (Str.ofString "base") es = some (some (.int 0 t2))) (g3 : getL (Str.ofString "room") es = some (some (.int 2000 t3))) (g4 : getL (Str.ofString "kinds") es = some (some (.ref ki))) (g5 : getL (Str.ofString "bits") es = some (some (.int 16 t4))) (g6 : getL (Str.ofString "digits") es = some (some (.int 9 t5)))
    (mS : (L + 1 + 1, oS) ∈ tl) (dS : oS.data = .cell (some (.ref su))) (mA : (L + 1 + 1 + 1, oA) ∈ tl) (dA : oA.data = .cell (some (.ref as)))
    (msu : (su, listOf #[.ref a0, .ref a1, .ref a2] n1) ∈ tl) (e0 : (a0, o0) ∈ tl) (e1 : (a1, o1) ∈ tl) (e2 : (a2, o2) ∈ tl) (i0 : IsT3 o0 (S 0 0) (S 0 1) (S 0 2)) (i1 : IsT3 o1 (S 1 0) (S 1 1) (S 1 2)) (i2 : IsT3 o2 (S 2 0) (S 2 1) (S 2 2)) (pS : Pms S)
    (mas : (as, listOf #[.ref b0, .ref b1, .ref b2] n2) ∈ tl) (e3 : (b0, d0) ∈ tl) (e4 : (b1, d1) ∈ tl) (e5 : (b2, d2) ∈ tl) (j0 : IsT3 d0 (B 0 0) (B 0 1) (B 0 2)) (j1 : IsT3 d1 (B 1 0) (B 1 1) (B 1 2)) (j2 : IsT3 d2 (B 2 0) (B 2 1) (B 2 2)) (pB : Pms B)
    (Q : Flow → Shared → Prop) (hQ : FillQ w g L ws wd es c S B tl s Q) :
    wpAny (model pw w) (lawA L f cdv) (exec (lawSt 3) (lawEnv L f cdv)) Q (fun _ _ => False) s := by
  unfold lawA lawEnv
  conv in lawSt 3 => whnf
  conv in (occs := *) lawScope => all_goals whnf
  have F0 : Fr g L s.heap (nmW ws m) := Fr.congr F (nmW_self mw)
  clear F
  k_steps
  rename_i D1 _ lD1 D2 _ lD2 D3 h3 F3 N3 lD3
  refine iter_tupTurns (vs := [.ref D1, .ref D2]) (by rfl) F3 N3 (.head _) (by rfl) (by rfl) ?_
  clear F3
  intro I1 lI
  k_lt lI
  k_steps
  rename_i hq tkq oI hcI hq3 Fq Nq hq2 hq1 hs h9 F9 N9 l9
  clear Fq Nq
  have qhs : @Ne Nat hs ar := Nat.ne_of_gt l9.2.2.2.2.1
  refine Halt.of (dim_line (kind_W w) F9 N9 KX T (by k_updF) (by k_mem) (by k_mem) (by k_mem) ⟨off _ mws, off _ mwd, qhs⟩ g1 g2 g3 g4 lo har (by rfl) (by exact Nat.le_of_ble_eq_true rfl) (by exact rfl) (by exact Nat.le_of_ble_eq_true rfl) (by exact Nat.le_of_ble_eq_true rfl) ?_)
  intro hDW tkDW oW gW gdW hlW itW esW nW cW tW1 tW2 tWz tWb tWa FDW NDW DW farW ordW gkW ghW gbW giW
  dsimp only [List.cons_append, List.nil_append] at NDW
  clear F9 N9
  have fWr := farW (ar, oar) (by k_mem)
  dsimp only at fWr
  have fWI := farW (I1, oI) (by k_mem)
  dsimp only at fWI
  have fW3 := farW (D3, _) (by k_mem)
  dsimp only at fW3
  have fW2 := farW (D2, _) (by k_mem)
  dsimp only at fW2
  have fW1 := farW (D1, _) (by k_mem)
  dsimp only at fW1
  have fWh := farW (hs, _) (by k_mem)
  dsimp only at fWh
  have ftlW : ∀ q ∈ tl, @Ne Nat q.1 itW ∧ @Ne Nat q.1 hlW ∧ @Ne Nat q.1 gW ∧ @Ne Nat q.1 gdW := fun q hq => farW q (.tail _ (.tail _ (.tail _ (.tail _ (.tail _ (.tail _ (hq)))))))
  clear farW
  k_steps
  obtain ⟨tlW, etW, NWW⟩ := tail_of NDW
  have GW : GrF w tlW ws itW (Str.ofString "W%") := by
    rw [etW]
    exact ⟨_, wd, ar, gW, gdW, hlW, es, esW, c, nW, cW, oW, tW1, tW2, tWb, t4, t5, tWa, List.forall_mem_cons.mpr ⟨by k_mem, List.forall_mem_cons.mpr ⟨by k_mem, List.forall_mem_cons.mpr ⟨by k_mem, List.forall_mem_cons.mpr ⟨by k_mem, List.forall_mem_cons.mpr ⟨by k_mem, List.forall_mem_cons.mpr ⟨by k_mem, List.forall_mem_nil _⟩⟩⟩⟩⟩⟩, g1, g5, g6, lo, DW, by rfl, gkW, ghW, gbW, giW⟩
  refine Halt.of (fill_inner w KX T L f cdv _ _ ws itW su a0 a1 a2 o0 o1 o2 n1 0 (Str.ofString "W%") s.toks S _ _ _ (Fr.congr FDW (fun y => nmF_self (by rfl) (by rfl) (by rfl) y)) NWW GW ?offW (by rw [etW]; k_mem) (by rw [etW]; k_mem) (by rw [etW]; k_mem) (by rw [etW]; k_mem) i0 i1 i2 pS (ints_rep tWz 9) (by rfl) _ ?_)
  case offW =>
    rw [etW]
    exact List.forall_mem_cons.mpr ⟨Nat.ne_of_lt ordW.2.2, List.forall_mem_cons.mpr ⟨Nat.ne_of_lt (Nat.lt_trans ordW.2.1 ordW.2.2), List.forall_mem_cons.mpr ⟨Nat.ne_of_lt (Nat.lt_trans ordW.1 (Nat.lt_trans ordW.2.1 ordW.2.2)), List.forall_mem_cons.mpr ⟨fWh.1, List.forall_mem_cons.mpr ⟨fWI.1, List.forall_mem_cons.mpr ⟨fW3.1, List.forall_mem_cons.mpr ⟨fW2.1, List.forall_mem_cons.mpr ⟨fW1.1, List.forall_mem_cons.mpr ⟨fWr.1, fun q hq => (ftlW q hq).1⟩⟩⟩⟩⟩⟩⟩⟩⟩
  clear FDW NDW NWW GW
  intro hFW tkFW mFW vsW nsW FFW NFW hiW laidW
  rw [etW] at NFW
  clear etW
  k_steps
  have oIW : ∀ p ∈ (itW, listOf vsW.toArray 0) :: (hlW, listOf #[.int 2 tW1, .int 2 tW2] cW) :: (gW, instObj 138 gdW) :: (gdW, dictOf esW nW) :: (D3, ({ cls := .type "tuple", data := .seq #[.ref D1, .ref D2] } : Obj)) :: (D2, ({ cls := .type "tuple", data := .seq #[.str (Str.ofString "X%") (s.toks + 1), .ref as] } : Obj)) :: (ar, oW) :: tl, @Ne Nat p.1 I1 := List.forall_mem_cons.mpr ⟨Ne.symm fWI.1, List.forall_mem_cons.mpr ⟨Ne.symm fWI.2.1, List.forall_mem_cons.mpr ⟨Ne.symm fWI.2.2.1, List.forall_mem_cons.mpr ⟨Ne.symm fWI.2.2.2, List.forall_mem_cons.mpr ⟨Nat.ne_of_lt lI.1, List.forall_mem_cons.mpr ⟨Nat.ne_of_lt lI.2.1, List.forall_mem_cons.mpr ⟨Nat.ne_of_lt lI.2.2.2.1, fun q hq => Nat.ne_of_lt (allLt_mem lI.2.2.2.2 q hq)⟩⟩⟩⟩⟩⟩⟩
  refine ⟨hFW, tkFW, _, (itW, listOf vsW.toArray 0) :: (hlW, listOf #[.int 2 tW1, .int 2 tW2] cW) :: (gW, instObj 138 gdW) :: (gdW, dictOf esW nW) :: (D3, ({ cls := .type "tuple", data := .seq #[.ref D1, .ref D2] } : Obj)) :: (D2, ({ cls := .type "tuple", data := .seq #[.str (Str.ofString "X%") (s.toks + 1), .ref as] } : Obj)) :: (ar, oW) :: tl, rfl, FFW, News.sub NFW ?sW, fun p hp q hq => by rw [List.mem_singleton.mp hq]; exact oIW p hp, ⟨by k_subL, ?_⟩⟩
  case sW =>
    exact List.forall_mem_cons.mpr ⟨by k_mem, List.forall_mem_cons.mpr ⟨by k_mem, List.forall_mem_cons.mpr ⟨by k_mem, List.forall_mem_cons.mpr ⟨by k_mem, List.forall_mem_cons.mpr ⟨by k_mem, List.forall_mem_cons.mpr ⟨by k_mem, List.forall_mem_cons.mpr ⟨by k_mem, List.forall_mem_cons.mpr ⟨by k_mem, fun q hq => .tail _ (.tail _ (.tail _ (.tail _ (.tail _ (.tail _ (.tail _ (.tail _ (.tail _ (.tail _ (hq))))))))))⟩⟩⟩⟩⟩⟩⟩⟩
  clear oIW NFW FFW
  k_steps
  rename_i hq tkq oI2 hcI2 hq3 Fq Nq hq2 hq1 hs2 h9 F9 N9 l9
  clear Fq Nq
  have qhs2 : @Ne Nat hs2 ar := Nat.ne_of_gt l9.2.2.2.2.2.2.2.1
  refine Halt.of (dim_line (kind_X w) F9 N9 KX T (by k_updF) (by k_mem) (by k_mem) (by k_mem) ⟨off _ mws, off _ mwd, qhs2⟩ g1 g2 g3 g4 lo DW (by rfl) (by exact Nat.le_of_ble_eq_true rfl) (by exact rfl) (by exact Nat.le_of_ble_eq_true rfl) (by exact Nat.le_of_ble_eq_true rfl) ?_)
  intro hDX tkDX oX gX gdX hlX itX esX nX cX tX1 tX2 tXz tXb tXa FDX NDX DX farX ordX gkX ghX gbX giX
  dsimp only [List.cons_append, List.nil_append] at NDX
  clear F9 N9
  have fXr := farX (ar, oW) (by k_mem)
  dsimp only at fXr
  have fXI := farX (I1, oI2) (by k_mem)
  dsimp only at fXI
  have fX3 := farX (D3, _) (by k_mem)
  dsimp only at fX3
  have fX2 := farX (D2, _) (by k_mem)
  dsimp only at fX2
  have fXh := farX (hs2, _) (by k_mem)
  dsimp only at fXh
  have fXti := farX (itW, _) (by k_mem)
  dsimp only at fXti
  have fXth := farX (hlW, _) (by k_mem)
  dsimp only at fXth
  have fXtg := farX (gW, _) (by k_mem)
  dsimp only at fXtg
  have fXtd := farX (gdW, _) (by k_mem)
  dsimp only at fXtd
  have ftlX : ∀ q ∈ tl, @Ne Nat q.1 itX ∧ @Ne Nat q.1 hlX ∧ @Ne Nat q.1 gX ∧ @Ne Nat q.1 gdX := fun q hq => farX q (.tail _ (.tail _ (.tail _ (.tail _ (.tail _ (.tail _ (.tail _ (.tail _ (.tail _ (hq))))))))))
  clear farX
  k_steps
  obtain ⟨tlX, etX, NWX⟩ := tail_of NDX
  have GX : GrF w tlX ws itX (Str.ofString "X%") := by
    rw [etX]
    exact ⟨_, wd, ar, gX, gdX, hlX, es, esX, c, nX, cX, oX, tX1, tX2, tXb, t4, t5, tXa, List.forall_mem_cons.mpr ⟨by k_mem, List.forall_mem_cons.mpr ⟨by k_mem, List.forall_mem_cons.mpr ⟨by k_mem, List.forall_mem_cons.mpr ⟨by k_mem, List.forall_mem_cons.mpr ⟨by k_mem, List.forall_mem_cons.mpr ⟨by k_mem, List.forall_mem_nil _⟩⟩⟩⟩⟩⟩, g1, g5, g6, lo, DX, by rfl, gkX, ghX, gbX, giX⟩
  refine Halt.of (fill_inner w KX T L f cdv _ _ ws itX as b0 b1 b2 d0 d1 d2 n2 0 (Str.ofString "X%") (s.toks + 1) B _ _ _ (Fr.congr FDX (fun y => nmF_self (by rfl) (by rfl) (by rfl) y)) NWX GX ?offX (by rw [etX]; k_mem) (by rw [etX]; k_mem) (by rw [etX]; k_mem) (by rw [etX]; k_mem) j0 j1 j2 pB (ints_rep tXz 9) (by rfl) _ ?_)
  case offX =>
    rw [etX]
    exact List.forall_mem_cons.mpr ⟨Nat.ne_of_lt ordX.2.2, List.forall_mem_cons.mpr ⟨Nat.ne_of_lt (Nat.lt_trans ordX.2.1 ordX.2.2), List.forall_mem_cons.mpr ⟨Nat.ne_of_lt (Nat.lt_trans ordX.1 (Nat.lt_trans ordX.2.1 ordX.2.2)), List.forall_mem_cons.mpr ⟨fXh.1, List.forall_mem_cons.mpr ⟨fXI.1, List.forall_mem_cons.mpr ⟨fXti.1, List.forall_mem_cons.mpr ⟨fXth.1, List.forall_mem_cons.mpr ⟨fXtg.1, List.forall_mem_cons.mpr ⟨fXtd.1, List.forall_mem_cons.mpr ⟨fX3.1, List.forall_mem_cons.mpr ⟨fX2.1, List.forall_mem_cons.mpr ⟨fXr.1, fun q hq => (ftlX q hq).1⟩⟩⟩⟩⟩⟩⟩⟩⟩⟩⟩⟩
  clear FDX NDX NWX GX
  intro hFX tkFX mFX vsX nsX FFX NFX hiX laidX
  rw [etX] at NFX
  clear etX
  k_steps
  have oIX : ∀ p ∈ (itX, listOf vsX.toArray 0) :: (hlX, listOf #[.int 2 tX1, .int 2 tX2] cX) :: (gX, instObj 138 gdX) :: (gdX, dictOf esX nX) :: (itW, listOf vsW.toArray 0) :: (hlW, listOf #[.int 2 tW1, .int 2 tW2] cW) :: (gW, instObj 138 gdW) :: (gdW, dictOf esW nW) :: (D3, ({ cls := .type "tuple", data := .seq #[.ref D1, .ref D2] } : Obj)) :: (ar, oX) :: tl, @Ne Nat p.1 I1 := List.forall_mem_cons.mpr ⟨Ne.symm fXI.1, List.forall_mem_cons.mpr ⟨Ne.symm fXI.2.1, List.forall_mem_cons.mpr ⟨Ne.symm fXI.2.2.1, List.forall_mem_cons.mpr ⟨Ne.symm fXI.2.2.2, List.forall_mem_cons.mpr ⟨Ne.symm fWI.1, List.forall_mem_cons.mpr ⟨Ne.symm fWI.2.1, List.forall_mem_cons.mpr ⟨Ne.symm fWI.2.2.1, List.forall_mem_cons.mpr ⟨Ne.symm fWI.2.2.2, List.forall_mem_cons.mpr ⟨Nat.ne_of_lt lI.1, List.forall_mem_cons.mpr ⟨Nat.ne_of_lt lI.2.2.2.1, fun q hq => Nat.ne_of_lt (allLt_mem lI.2.2.2.2 q hq)⟩⟩⟩⟩⟩⟩⟩⟩⟩⟩
  refine ⟨hFX, tkFX, _, (itX, listOf vsX.toArray 0) :: (hlX, listOf #[.int 2 tX1, .int 2 tX2] cX) :: (gX, instObj 138 gdX) :: (gdX, dictOf esX nX) :: (itW, listOf vsW.toArray 0) :: (hlW, listOf #[.int 2 tW1, .int 2 tW2] cW) :: (gW, instObj 138 gdW) :: (gdW, dictOf esW nW) :: (D3, ({ cls := .type "tuple", data := .seq #[.ref D1, .ref D2] } : Obj)) :: (ar, oX) :: tl, rfl, FFX, News.sub NFX ?sX, fun p hp q hq => by rw [List.mem_singleton.mp hq]; exact oIX p hp, ⟨by k_subL, ?_⟩⟩
  case sX =>
    exact List.forall_mem_cons.mpr ⟨by k_mem, List.forall_mem_cons.mpr ⟨by k_mem, List.forall_mem_cons.mpr ⟨by k_mem, List.forall_mem_cons.mpr ⟨by k_mem, List.forall_mem_cons.mpr ⟨by k_mem, List.forall_mem_cons.mpr ⟨by k_mem, List.forall_mem_cons.mpr ⟨by k_mem, List.forall_mem_cons.mpr ⟨by k_mem, List.forall_mem_cons.mpr ⟨by k_mem, List.forall_mem_cons.mpr ⟨by k_mem, List.forall_mem_cons.mpr ⟨by k_mem, fun q hq => .tail _ (.tail _ (.tail _ (.tail _ (.tail _ (.tail _ (.tail _ (.tail _ (.tail _ (.tail _ (.tail _ (.tail _ (.tail _ (hq)))))))))))))⟩⟩⟩⟩⟩⟩⟩⟩⟩⟩⟩
  clear oIX NFX FFX
  k_steps
  rename News _ _ _ _ => N9
  rename Fr _ _ _ _ => F9
  refine hQ _ _ _ [(itX, listOf vsX.toArray 0), (hlX, listOf #[.int 2 tX1, .int 2 tX2] cX), (gX, instObj 138 gdX), (gdX, dictOf esX nX), (itW, listOf vsW.toArray 0), (hlW, listOf #[.int 2 tW1, .int 2 tW2] cW), (gW, instObj 138 gdW), (gdW, dictOf esW nW), (D3, ({ cls := .type "tuple", data := .seq #[.ref D1, .ref D2] } : Obj)), (ar, oX)] nsW nsX F9 rfl N9 (List.forall_mem_cons.mpr ⟨fun p hp => (ftlX p hp).1, List.forall_mem_cons.mpr ⟨fun p hp => (ftlX p hp).2.1, List.forall_mem_cons.mpr ⟨fun p hp => (ftlX p hp).2.2.1, List.forall_mem_cons.mpr ⟨fun p hp => (ftlX p hp).2.2.2, List.forall_mem_cons.mpr ⟨fun p hp => (ftlW p hp).1, List.forall_mem_cons.mpr ⟨fun p hp => (ftlW p hp).2.1, List.forall_mem_cons.mpr ⟨fun p hp => (ftlW p hp).2.2.1, List.forall_mem_cons.mpr ⟨fun p hp => (ftlW p hp).2.2.2, List.forall_mem_cons.mpr ⟨fun p hp => Nat.ne_of_lt (allLt_mem lD3.2.2.2 p hp), List.forall_mem_cons.mpr ⟨fun p hp => off p hp, List.forall_mem_nil _⟩⟩⟩⟩⟩⟩⟩⟩⟩⟩) (fun h L tl' sN m1 m2 N => ?_) laidW laidX
  have GW : GrF w tl' ws itW (Str.ofString "W%") := ⟨_, wd, ar, gW, gdW, hlW, es, esW, c, nW, cW, oX, tW1, tW2, tWb, t4, t5, tWa, List.forall_mem_cons.mpr ⟨m1, List.forall_mem_cons.mpr ⟨m2, List.forall_mem_cons.mpr ⟨sN _ (by k_mem), List.forall_mem_cons.mpr ⟨sN _ (by k_mem), List.forall_mem_cons.mpr ⟨sN _ (by k_mem), List.forall_mem_cons.mpr ⟨sN _ (by k_mem), List.forall_mem_nil _⟩⟩⟩⟩⟩⟩, g1, g5, g6, lo, DX, by rfl, gkW, ghW, gbW, giW⟩
  have GX : GrF w tl' ws itX (Str.ofString "X%") := ⟨_, wd, ar, gX, gdX, hlX, es, esX, c, nX, cX, oX, tX1, tX2, tXb, t4, t5, tXa, List.forall_mem_cons.mpr ⟨m1, List.forall_mem_cons.mpr ⟨m2, List.forall_mem_cons.mpr ⟨sN _ (by k_mem), List.forall_mem_cons.mpr ⟨sN _ (by k_mem), List.forall_mem_cons.mpr ⟨sN _ (by k_mem), List.forall_mem_cons.mpr ⟨sN _ (by k_mem), List.forall_mem_nil _⟩⟩⟩⟩⟩⟩, g1, g5, g6, lo, DX, by rfl, gkX, ghX, gbX, giX⟩
  exact ⟨GW.get N (fun _ q => q) (sN _ (.tail _ (.tail _ (.tail _ (.tail _ (.head _)))))) hiW laidW.1, GX.get N (fun _ q => q) (sN _ (.head _)) hiX laidX.1⟩
end
section
variable {prog : Program} {w : World} {A : Around} {s : Shared} {h₀ : Heap} {L : Addr} {m : Str → Option Value} {env : Env} {ct elt : Expr} {x : Str} {scope : Scope} {cl : List (Str × Addr)} {S : List (Addr × Obj) → Prop} {P : Nat → Value → Prop} {Fin : List Value → List (Addr × Obj) → Prop}
/-- a comprehension with a test that only reads -/
theorem comp_indT {n : Nat} {news₀ : List (Addr × Obj)} (J : Nat → List Value → Prop) (hS : S news₀) (start : J 0 [])
    (step : ∀ i ys v I oI C oC D m₂ h tk (E' : Value → Shared → Prop), i < n → J i ys → P i v → LCg.NsObj oC m₂ → m₂ x = some v → Fr h₀ L h m → News h₀ L h ((I, oI) :: (C, oC) :: (D, LCg.lst ys) :: news₀) → LCg.Off3 I C D news₀ → ((@Ne Nat I C) ∧ (@Ne Nat I D) ∧ (@Ne Nat C D)) →
      wpAny (model prog w) A (isTrue ct (compEnvC scope cl C env) (eval ct (compEnvC scope cl C env))) (fun ok s' => if ok = true then
        wpAny (model prog w) A (eval elt (compEnvC scope cl C env)) (LCg.CompEnd h₀ L m { s with heap := h, toks := tk } I oI C oC D (LCg.lst ys) S (fun y news' => (∀ q ∈ news₀, q ∈ news') ∧ J (i + 1) (ys ++ [y]))) E' s'
        else LCg.CompEnd h₀ L m { s with heap := h, toks := tk } I oI C oC D (LCg.lst ys) S (fun _ news' => (∀ q ∈ news₀, q ∈ news') ∧ J (i + 1) ys) Value.none s') E' { s with heap := h, toks := tk })
    (fin : ∀ ys, J n ys → Fin ys news₀) : LCt.CompRestT prog w A h₀ L m env ct elt x scope cl s S P Fin n 0 [] news₀ := by
  have key : ∀ k i ys, i + k = n → J i ys → LCt.CompRestT prog w A h₀ L m env ct elt x scope cl s S P Fin k i ys news₀ := by
    intro k
    induction k with
    | zero =>
      intro i ys e j
      have e : i = n := e
      subst e
      exact fin ys j
    | succ k ih =>
      intro i ys e j v I oI C oC D m₂ h tk E' hp hc hx F N off ne
      have conv : ∀ (y : Value) (ys' : List Value) (s₂ : Shared), LCg.CompEnd h₀ L m { s with heap := h, toks := tk } I oI C oC D (LCg.lst ys) S (fun y news' => (∀ q ∈ news₀, q ∈ news') ∧ J (i + 1) ys') y s₂ →
          LCg.CompEnd h₀ L m { s with heap := h, toks := tk } I oI C oC D (LCg.lst ys) S (fun y news' => LCt.CompRestT prog w A h₀ L m env ct elt x scope cl s S P Fin k (i + 1) ys' news') y s₂ := by
        rintro y ys' s₂ ⟨h', tk', news', e', F', N', off', _, sub, j'⟩
        refine ⟨h', tk', news₀, e', F', ?_, LCg.Off3.of fun q hq => LCg.Off3.mem off' q (sub q hq), hS, ih (i + 1) ys' (by omega) j'⟩
        refine List.forall_mem_cons.mpr ⟨N' _ (.head _), List.forall_mem_cons.mpr ⟨N' _ (.tail _ (.head _)), List.forall_mem_cons.mpr ⟨N' _ (.tail _ (.tail _ (.head _))), fun q hq => N' q (.tail _ (.tail _ (.tail _ (sub q hq))))⟩⟩⟩
      refine wpAny_mono (step i ys v I oI C oC D m₂ h tk E' (by omega) j hp hc hx F N off ne) (fun ok s₂ p => ?_) fun _ _ e => e
      by_cases ok9 : ok = true
      · rw [if_pos ok9] at p ⊢
        refine wpAny_mono p (fun y s₃ p => ?_) fun _ _ e => e
        obtain ⟨h', tk', news', e', F', N', off', hS', sub, j'⟩ := p
        exact conv y (ys ++ [y]) s₃ ⟨h', tk', news', e', F', N', off', hS', sub, j'⟩
      · rw [if_neg ok9] at p ⊢
        exact conv _ ys s₂ p
  exact key n 0 [] (by omega) start
end
theorem holds_line {w : World} {mean : ExcName → Option Value} {mg mb : Str → Option Value} {A : Around} {E : Value → Shared → Prop} {Q : Value → Shared → Prop} {s : Shared} {h₀ : Heap} {L : Addr} {m : Str → Option Value} {news : List (Addr × Obj)}
    {pa su as a0 a1 a2 b0 b1 b2 : Addr} {po c0 c1 c2 d0 d1 d2 : Obj} {n n2 : Nat} {S B : Int → Int → Int} {p : Int → Int}
    (F : Fr h₀ L s.heap m) (N : News h₀ L s.heap news) (KX : (HK w.params).In h₀) (T : Top VW LL mean mg mb h₀)
    (m0 : (pa, po) ∈ news) (m1 : (su, listOf #[.ref a0, .ref a1, .ref a2] n) ∈ news) (m2 : (as, listOf #[.ref b0, .ref b1, .ref b2] n2) ∈ news) (m3 : (a0, c0) ∈ news) (m4 : (a1, c1) ∈ news) (m5 : (a2, c2) ∈ news) (m6 : (b0, d0) ∈ news) (m7 : (b1, d1) ∈ news) (m8 : (b2, d2) ∈ news)
    (ip : IsT3 po (p 0) (p 1) (p 2)) (i0 : IsT3 c0 (S 0 0) (S 0 1) (S 0 2)) (i1 : IsT3 c1 (S 1 0) (S 1 1) (S 1 2)) (i2 : IsT3 c2 (S 2 0) (S 2 1) (S 2 2))
    (j0 : IsT3 d0 (B 0 0) (B 0 1) (B 0 2)) (j1 : IsT3 d1 (B 1 0) (B 1 1) (B 1 2)) (j2 : IsT3 d2 (B 2 0) (B 2 1) (B 2 2)) (Pp : Pm (p 0) (p 1) (p 2)) (PS : Pms S) (PB : Pms B) (hh : A.handled = none) (e1 : A.depth ≤ 800) (e2 : A.units ≤ 3000)
    (h : ∀ b h' tk, (b = true ↔ Stable S B p) → Fr h₀ L h' m → News h₀ L h' news → Q (.bool b) { s with heap := h', toks := tk }) :
    wpAny (model pw w) A (call (.ref 255) [.ref pa, .ref su, .ref as]) Q E s := by
  refine wk hh e1 e2 (wpAny_mono (holds_walk w KX T s F.keep pa su as a0 a1 a2 b0 b1 b2 po c0 c1 c2 d0 d1 d2 n n2 S B p (mu_in N ?_) ip i0 i1 i2 j0 j1 j2 Pp PS PB Q (fun b h' tk hb x => h b h' tk hb (F.keeps x) (News.keepsAll N x))) (fun _ _ q => q) fun _ _ q => q.elim)
  simp only [List.forall_mem_cons]
  exact ⟨m0, m1, m2, m3, m4, m5, m6, m7, m8, fun q hq => nomatch hq⟩
open Classical in
/-- the orders that hold, by their number -/
noncomputable def ksTo (S B : Int → Int → Int) (i : Nat) : List Nat := (List.range i).filter fun k => decide (Stable S B (od (k : Int)))
open Classical in
theorem ksTo_yes {S B : Int → Int → Int} {i : Nat} (h : Stable S B (od (i : Int))) : ksTo S B (i + 1) = ksTo S B i ++ [i] := by
  unfold ksTo
  rw [List.range_succ, List.filter_append]
  simp [h]
open Classical in
theorem ksTo_no {S B : Int → Int → Int} {i : Nat} (h : ¬ Stable S B (od (i : Int))) : ksTo S B (i + 1) = ksTo S B i := by
  unfold ksTo
  rw [List.range_succ, List.filter_append]
  simp [h]
open Classical in
theorem ksTo_mem {S B : Int → Int → Int} {i k : Nat} : k ∈ ksTo S B i ↔ k < i ∧ Stable S B (od (k : Int)) := by
  unfold ksTo
  rw [List.mem_filter, List.mem_range, decide_eq_true_eq]
def HoldQ (g : Heap) (L : Addr) (m : Str → Option Value) (S B : Int → Int → Int) (tl : List (Addr × Obj)) (s : Shared) (Q : Flow → Shared → Prop) : Prop :=
  ∀ h' tk D n new (ad : Nat → Addr), Fr g L h' (fun y => if y = Str.ofString "holding" then some (.ref D) else m y) → News g L h' (new ++ tl) → (∀ q ∈ new, ∀ p ∈ tl, p.1 ≠ q.1) → (D, listOf ((ksTo S B 6).map (fun k => Value.ref (ad k))).toArray n) ∈ new →
    (∀ k, k < 6 → ∃ o, (ad k, o) ∈ new ∧ IsT3 o (od (k : Int) 0) (od (k : Int) 1) (od (k : Int) 2)) → Q .next { s with heap := h', toks := tk }
def ad6 (b0 b1 b2 b3 b4 b5 : Addr) (k : Nat) : Addr := match k with
  | 0 => b0
  | 1 => b1
  | 2 => b2
  | 3 => b3
  | 4 => b4
  | _ => b5
theorem six_nat {i : Nat} (h : i < 6) : i = 0 ∨ i = 1 ∨ i = 2 ∨ i = 3 ∨ i = 4 ∨ i = 5 := by omega
theorem six_at {b0 b1 b2 b3 b4 b5 : Addr} {c0 c1 c2 c3 c4 c5 : Obj} {i : Nat} (hi : i < 6) (i0 : IsT3 c0 0 1 2) (i1 : IsT3 c1 1 2 0) (i2 : IsT3 c2 0 2 1) (i3 : IsT3 c3 1 0 2) (i4 : IsT3 c4 2 1 0) (i5 : IsT3 c5 2 0 1) :
    ∃ o, (ad6 b0 b1 b2 b3 b4 b5 i, o) ∈ [(b0, c0), (b1, c1), (b2, c2), (b3, c3), (b4, c4), (b5, c5)] ∧ IsT3 o (od (i : Int) 0) (od (i : Int) 1) (od (i : Int) 2) := by
  rcases six_nat hi with rfl | rfl | rfl | rfl | rfl | rfl
  · exact ⟨c0, .head _, i0⟩
  · exact ⟨c1, .tail _ (.head _), i1⟩
  · exact ⟨c2, .tail _ (.tail _ (.head _)), i2⟩
  · exact ⟨c3, .tail _ (.tail _ (.tail _ (.head _))), i3⟩
  · exact ⟨c4, .tail _ (.tail _ (.tail _ (.tail _ (.head _)))), i4⟩
  · exact ⟨c5, .tail _ (.tail _ (.tail _ (.tail _ (.tail _ (.head _))))), i5⟩
theorem six_val {b0 b1 b2 b3 b4 b5 : Addr} {i : Nat} {v : Value} (hi : i < 6) (h : (#[.ref b0, .ref b1, .ref b2, .ref b3, .ref b4, .ref b5] : Array Value)[i]? = some v) : v = .ref (ad6 b0 b1 b2 b3 b4 b5 i) := by
  rcases six_nat hi with rfl | rfl | rfl | rfl | rfl | rfl <;> exact (Option.some.inj h).symm
section
local macro_rules | `(tactic| walk_at "CompSrcT") => `(tactic| refine Halt.mk ?_) -- here
local macro_rules | `(tactic| walk_at "CompEnd") => `(tactic| refine Halt.mk ?_) -- here
local macro_rules | `(tactic| walk_at "call ref") => `(tactic| ((with_reducible show wpAny _ _ (call (Value.ref 255) _) _ _ _); refine Halt.mk ?_)) -- here
theorem hold_walk (w : World) {mean : ExcName → Option Value} {mg mb : Str → Option Value} {g : Heap} (KX : (HK w.params).In g) (T : Top VW LL mean mg mb g)
    (L f : Addr) (cdv : Value) (s : Shared) (m : Str → Option Value) (su as a0 a1 a2 b0 b1 b2 : Addr) (oS oA o0 o1 o2 d0 d1 d2 : Obj) (n1 n2 : Nat) (S B : Int → Int → Int) (tl : List (Addr × Obj))
    (F : Fr g L s.heap m) (N : News g L s.heap tl)
    (mS : (L + 1 + 1, oS) ∈ tl) (dS : oS.data = .cell (some (.ref su))) (mA : (L + 1 + 1 + 1, oA) ∈ tl) (dA : oA.data = .cell (some (.ref as)))
    (msu : (su, listOf #[.ref a0, .ref a1, .ref a2] n1) ∈ tl) (e0 : (a0, o0) ∈ tl) (e1 : (a1, o1) ∈ tl) (e2 : (a2, o2) ∈ tl) (i0 : IsT3 o0 (S 0 0) (S 0 1) (S 0 2)) (i1 : IsT3 o1 (S 1 0) (S 1 1) (S 1 2)) (i2 : IsT3 o2 (S 2 0) (S 2 1) (S 2 2)) (pS : Pms S)
    (mas : (as, listOf #[.ref b0, .ref b1, .ref b2] n2) ∈ tl) (e3 : (b0, d0) ∈ tl) (e4 : (b1, d1) ∈ tl) (e5 : (b2, d2) ∈ tl) (j0 : IsT3 d0 (B 0 0) (B 0 1) (B 0 2)) (j1 : IsT3 d1 (B 1 0) (B 1 1) (B 1 2)) (j2 : IsT3 d2 (B 2 0) (B 2 1) (B 2 2)) (pB : Pms B)
    (Q : Flow → Shared → Prop) (hQ : HoldQ g L m S B tl s Q) :
    wpAny (model pw w) (lawA L f cdv) (exec (lawSt 4) (lawEnv L f cdv)) Q (fun _ _ => False) s := by
  unfold lawA lawEnv
  conv in lawSt 4 => whnf
  conv in (occs := *) lawScope => all_goals whnf
  k_steps
  rename_i D0 q0 q1 q2 q3 q4 q5 x0 x1 x2 x3 x4 x5 nD hA tkA FA NA y0 y1 y2 y3 y4 y5 lo ch
  refine Halt.of (LCt.CompSrcT.ledger (its := #[.ref q0, .ref q1, .ref q2, .ref q3, .ref q4, .ref q5]) (by rfl) FA NA (.head _) (by exact Nat.le_of_ble_eq_true rfl) ?_)
  intro g'
  clear FA NA
  obtain ⟨all, eall⟩ : ∃ all, all = (D0, listOf #[.ref q0, .ref q1, .ref q2, .ref q3, .ref q4, .ref q5] nD) :: (q0, x0) :: (q1, x1) :: (q2, x2) :: (q3, x3) :: (q4, x4) :: (q5, x5) :: tl := ⟨_, rfl⟩
  have sub6 : ∀ q ∈ [(q0, x0), (q1, x1), (q2, x2), (q3, x3), (q4, x4), (q5, x5)], q ∈ all := fun q hq => by
    rw [eall]
    exact .tail _ (List.mem_append_left tl hq)
  have subt : ∀ q ∈ tl, q ∈ all := fun q hq => by
    rw [eall]
    exact .tail _ (.tail _ (.tail _ (.tail _ (.tail _ (.tail _ (.tail _ hq))))))
  have mD0 : (D0, listOf #[.ref q0, .ref q1, .ref q2, .ref q3, .ref q4, .ref q5] nD) ∈ all := by rw [eall]; exact .head _
  rw [← eall]
  refine comp_indT (fun i ys => ys = (ksTo S B i).map (fun k => Value.ref (ad6 q0 q1 q2 q3 q4 q5 k))) (.inr ⟨_, mD0, rfl, _, rfl⟩) rfl ?step ?fin
  case step =>
    rintro i ys v I oI C oC D m₂ hh tk E' hi rfl hv hC hx FB NB off ne
    have hi : i < 6 := hi
    obtain rfl := six_val hi hv
    obtain ⟨oi, mi, ii⟩ := six_at (b0 := q0) (b1 := q1) (b2 := q2) (b3 := q3) (b4 := q4) (b5 := q5) hi y0 y1 y2 y3 y4 y5
    have mi' := sub6 _ mi
    have k1 := subt _ mS
    have k2 := subt _ mA
    generalize eai : ad6 q0 q1 q2 q3 q4 q5 i = ai at *
    k_steps
    refine Halt.of (holds_line FB NB KX T (.tail _ (.tail _ (.tail _ mi'))) (.tail _ (.tail _ (.tail _ (subt _ msu)))) (.tail _ (.tail _ (.tail _ (subt _ mas)))) (.tail _ (.tail _ (.tail _ (subt _ e0)))) (.tail _ (.tail _ (.tail _ (subt _ e1)))) (.tail _ (.tail _ (.tail _ (subt _ e2)))) (.tail _ (.tail _ (.tail _ (subt _ e3)))) (.tail _ (.tail _ (.tail _ (subt _ e4)))) (.tail _ (.tail _ (.tail _ (subt _ e5)))) ii i0 i1 i2 j0 j1 j2 (od_pm (by omega) (by omega)) pS pB (by exact rfl) (by exact Nat.le_of_ble_eq_true rfl) (by exact Nat.le_of_ble_eq_true rfl) ?_)
    intro b h9 tk9 hb F9 N9
    clear FB NB
    cases b with
    | true =>
      k_steps
      refine Halt.of (LCg.CompEnd.intro F9 N9 all (fun q hq => hq) off (.inr ⟨_, mD0, rfl, _, rfl⟩) ⟨fun _ h => h, ?_⟩)
      rw [ksTo_yes (hb.mp rfl), List.map_append, List.map_cons, List.map_nil, eai]
    | false =>
      k_steps
      refine Halt.of (LCg.CompEnd.intro F9 N9 all (fun q hq => hq) off (.inr ⟨_, mD0, rfl, _, rfl⟩) ⟨fun _ h => h, ?_⟩)
      rw [ksTo_no (fun h => nomatch hb.mpr h)]
  case fin =>
    rintro ys rfl
    k_steps
    rename_i D9 h9 tk9 F9 N9 of9
    have ofm := off1_mem of9
    have far : ∀ (a : Addr), @LE.le Nat _ q0 a → ∀ p ∈ tl, p.1 ≠ a := fun a ha p hp => Nat.ne_of_lt (Nat.lt_of_lt_of_le (lo p hp) ha)
    have ofD : ∀ p ∈ tl, p.1 ≠ D9 := fun p hp => ofm p (subt p hp)
    rw [eall] at N9
    refine hQ _ _ D9 _ [(D9, LCg.lst ((ksTo S B 6).map (fun k => Value.ref (ad6 q0 q1 q2 q3 q4 q5 k)))), (D0, listOf #[.ref q0, .ref q1, .ref q2, .ref q3, .ref q4, .ref q5] nD), (q0, x0), (q1, x1), (q2, x2), (q3, x3), (q4, x4), (q5, x5)] (ad6 q0 q1 q2 q3 q4 q5) F9 N9
      (List.forall_mem_cons.mpr ⟨ofD, List.forall_mem_cons.mpr ⟨far _ (by omega), List.forall_mem_cons.mpr ⟨far _ (by omega), List.forall_mem_cons.mpr ⟨far _ (by omega), List.forall_mem_cons.mpr ⟨far _ (by omega), List.forall_mem_cons.mpr ⟨far _ (by omega), List.forall_mem_cons.mpr ⟨far _ (by omega), List.forall_mem_cons.mpr ⟨far _ (by omega), List.forall_mem_nil _⟩⟩⟩⟩⟩⟩⟩⟩) (.head _) (fun k hk => ?_)
    obtain ⟨o, mo, io⟩ := six_at (b0 := q0) (b1 := q1) (b2 := q2) (b3 := q3) (b4 := q4) (b5 := q5) hk y0 y1 y2 y3 y4 y5
    exact ⟨o, .tail _ (.tail _ mo), io⟩
end
/-- the turned one, and that it is new -/
theorem turned_new_T {w : World} {mean : ExcName → Option Value} {mg mb : Str → Option Value} {A : Around} {E : Value → Shared → Prop} {Q : Value → Shared → Prop} {s : Shared} {h₀ : Heap} {L : Addr} {m : Str → Option Value} {news : List (Addr × Obj)} {p : Addr} {x y z : Int} {n : Nat} {t1 t2 t3 : Tok}
    (F : Fr h₀ L s.heap m) (N : News h₀ L s.heap news) (KX : (HK w.params).In h₀) (T : Top VW LL mean mg mb h₀)
    (hm : (p, ({ cls := .type "tuple", data := .seq #[.int x t1, .int y t2, .int z t3] n } : Obj)) ∈ news) (P : Pm x y z) (hh : A.handled = none) (e1 : A.depth ≤ 800) (e2 : A.units ≤ 3000)
    (h : ∀ D h' tk t1 t2 t3 n, Fr h₀ L h' m → News h₀ L h' ((D, ({ cls := .type "tuple", data := .seq #[.int (rk x y z 0) t1, .int (rk x y z 1) t2, .int (rk x y z 2) t3] n } : Obj)) :: news) → (∀ q ∈ news, q.1 ≠ p → q.1 ≠ D) → Q (.ref D) { s with heap := h', toks := tk }) :
    wpAny (model pw w) A (call (.ref 265) [.ref p]) Q E s := by
  have hM : Mu h₀ s.heap [(p, ({ cls := .type "tuple", data := .seq #[.int x t1, .int y t2, .int z t3] n } : Obj))] := mu_in N (List.forall_mem_cons.mpr ⟨hm, List.forall_mem_nil _⟩)
  have st := mu_stays F.keep hM
  have M2 : Mu (hideAll s.heap ([(p, ({ cls := .type "tuple", data := .seq #[.int x t1, .int y t2, .int z t3] n } : Obj))].map (·.1))) s.heap [(p, ({ cls := .type "tuple", data := .seq #[.int x t1, .int y t2, .int z t3] n } : Obj))] := fun q hq => ⟨(hM q hq).1, hideAll_none _ (List.mem_map_of_mem hq)⟩
  refine wk hh e1 e2 (wpAny_mono (turned_walk_T w (KX.keeps st) (T.keeps st) s (fun b o e => of_hideAll _ e) p x y z n t1 t2 t3 M2 P Q (fun D h' tk t1' t2' t3' n' x9 M => h D h' tk t1' t2' t3' n' (F.keeps x9) (news_tup F N x9 (fun q hq => ⟨(M q hq).1, ?_⟩)) (fun q hq np e => ?_))) (fun _ _ q => q) fun _ _ q => q.elim)
  · cases e : h₀.get? q.1 with
    | none => rfl
    | some o =>
      have z9 := (M q hq).2
      rw [st _ _ e] at z9
      cases z9
  · have z9 := (M _ (.head _)).2
    have y9 := (N q hq).1
    rw [e] at y9
    have e9 := (hideAll_get [p] y9 (fun k => np (e.trans (List.mem_singleton.mp k)))).symm.trans z9
    cases e9
/-- the turned one, and that it is new -/
theorem turned_new_L {w : World} {mean : ExcName → Option Value} {mg mb : Str → Option Value} {A : Around} {E : Value → Shared → Prop} {Q : Value → Shared → Prop} {s : Shared} {h₀ : Heap} {L : Addr} {m : Str → Option Value} {news : List (Addr × Obj)} {p : Addr} {x y z : Int} {n : Nat} {t1 t2 t3 : Tok}
    (F : Fr h₀ L s.heap m) (N : News h₀ L s.heap news) (KX : (HK w.params).In h₀) (T : Top VW LL mean mg mb h₀)
    (hm : (p, (listOf #[.int x t1, .int y t2, .int z t3] n)) ∈ news) (P : Pm x y z) (hh : A.handled = none) (e1 : A.depth ≤ 800) (e2 : A.units ≤ 3000)
    (h : ∀ D h' tk t1 t2 t3 n, Fr h₀ L h' m → News h₀ L h' ((D, ({ cls := .type "tuple", data := .seq #[.int (rk x y z 0) t1, .int (rk x y z 1) t2, .int (rk x y z 2) t3] n } : Obj)) :: news) → (∀ q ∈ news, q.1 ≠ p → q.1 ≠ D) → Q (.ref D) { s with heap := h', toks := tk }) :
    wpAny (model pw w) A (call (.ref 265) [.ref p]) Q E s := by
  have hM : Mu h₀ s.heap [(p, (listOf #[.int x t1, .int y t2, .int z t3] n))] := mu_in N (List.forall_mem_cons.mpr ⟨hm, List.forall_mem_nil _⟩)
  have st := mu_stays F.keep hM
  have M2 : Mu (hideAll s.heap ([(p, (listOf #[.int x t1, .int y t2, .int z t3] n))].map (·.1))) s.heap [(p, (listOf #[.int x t1, .int y t2, .int z t3] n))] := fun q hq => ⟨(hM q hq).1, hideAll_none _ (List.mem_map_of_mem hq)⟩
  refine wk hh e1 e2 (wpAny_mono (turned_walk_L w (KX.keeps st) (T.keeps st) s (fun b o e => of_hideAll _ e) p x y z n t1 t2 t3 M2 P Q (fun D h' tk t1' t2' t3' n' x9 M => h D h' tk t1' t2' t3' n' (F.keeps x9) (news_tup F N x9 (fun q hq => ⟨(M q hq).1, ?_⟩)) (fun q hq np e => ?_))) (fun _ _ q => q) fun _ _ q => q.elim)
  · cases e : h₀.get? q.1 with
    | none => rfl
    | some o =>
      have z9 := (M q hq).2
      rw [st _ _ e] at z9
      cases z9
  · have z9 := (M _ (.head _)).2
    have y9 := (N q hq).1
    rw [e] at y9
    have e9 := (hideAll_get [p] y9 (fun k => np (e.trans (List.mem_singleton.mp k)))).symm.trans z9
    cases e9
/-- no tuple -/
def NotTup (o : Obj) : Prop := ∀ (its : Array Value) (n : Nat), o ≠ ({ cls := .type "tuple", data := .seq its n } : Obj)
theorem notTup_list {its : Array Value} {n : Nat} : NotTup (listOf its n) := fun its' n' e => absurd (Value.type.inj (congrArg Obj.cls e)) (by decide)
theorem notTup_cell {o : Obj} {v : Option Value} (h : o.data = .cell v) : NotTup o := fun its' n' e => by
  have := congrArg Obj.data e
  rw [h] at this
  cases this
/-- the turned of the order of that number -/
def td (k : Nat) (j : Int) : Int := rk (od (k : Int) 0) (od (k : Int) 1) (od (k : Int) 2) j
def TurnQ (g : Heap) (L : Addr) (m : Str → Option Value) (ks : List Nat) (tl : List (Addr × Obj)) (s : Shared) (Q : Flow → Shared → Prop) : Prop :=
  ∀ h' tk D n (tn : List (Addr × Obj)), Fr g L h' (fun y => if y = Str.ofString "turned" then some (.ref D) else m y) → News g L h' ((D, listOf (tn.map (fun q => Value.ref q.1)).toArray n) :: (tn ++ tl)) →
    (∀ q ∈ tn, ∀ p ∈ tl, NotTup p.2 → p.1 ≠ q.1) → (∀ p ∈ tl, p.1 ≠ D) → tn.length = ks.length → (∀ (j : Nat) (q : Addr × Obj), tn[j]? = some q → ∃ k, ks[j]? = some k ∧ IsT3 q.2 (td k 0) (td k 1) (td k 2)) → Q .next { s with heap := h', toks := tk }
section
local macro_rules | `(tactic| walk_at "CompSrc") => `(tactic| refine Halt.mk ?_) -- here
local macro_rules | `(tactic| walk_at "CompEnd") => `(tactic| refine Halt.mk ?_) -- here
local macro_rules | `(tactic| walk_at "call ref") => `(tactic| ((with_reducible show wpAny _ _ (call (Value.ref 265) _) _ _ _); refine Halt.mk ?_)) -- here
local macro_rules | `(tactic| walk_at "zq") => `(tactic| fail)
theorem turn_walk (w : World) {mean : ExcName → Option Value} {mg mb : Str → Option Value} {g : Heap} (KX : (HK w.params).In g) (T : Top VW LL mean mg mb g)
    (L f : Addr) (cdv : Value) (s : Shared) (m : Str → Option Value) (Dh : Addr) (n : Nat) (ks : List Nat) (ad : Nat → Addr) (tl : List (Addr × Obj))
    (F : Fr g L s.heap (fun y => if y = Str.ofString "holding" then some (.ref Dh) else m y)) (N : News g L s.heap tl) (mD : (Dh, listOf (ks.map (fun k => Value.ref (ad k))).toArray n) ∈ tl) (lk : ks.length ≤ 6)
    (hits : ∀ k ∈ ks, k < 6 ∧ ∃ o, (ad k, o) ∈ tl ∧ IsT3 o (od (k : Int) 0) (od (k : Int) 1) (od (k : Int) 2))
    (Q : Flow → Shared → Prop) (hQ : TurnQ g L (fun y => if y = Str.ofString "holding" then some (.ref Dh) else m y) ks tl s Q) :
    wpAny (model pw w) (lawA L f cdv) (exec (lawSt 5) (lawEnv L f cdv)) Q (fun _ _ => False) s := by
  unfold lawA lawEnv
  conv in lawSt 5 => whnf
  conv in (occs := *) lawScope => all_goals whnf
  k_steps
  have sz : (ks.map (fun k => Value.ref (ad k))).toArray.size = ks.length := by simp
  refine Halt.of (LCg.CompSrc.ledger (its := (ks.map (fun k => Value.ref (ad k))).toArray) (by rfl) F N mD (by rw [sz]; exact Nat.le_trans lk (by exact Nat.le_of_ble_eq_true rfl)) ?_)
  intro g'
  refine comp_ind (fun i ys news => ∃ tn : List (Addr × Obj), news = tn ++ tl ∧ tn.length = i ∧ ys = tn.map (fun q => Value.ref q.1) ∧ (∀ q ∈ tn, ∀ p ∈ tl, NotTup p.2 → p.1 ≠ q.1) ∧ ∀ (j : Nat) (q : Addr × Obj), tn[j]? = some q → ∃ k, ks[j]? = some k ∧ IsT3 q.2 (td k 0) (td k 1) (td k 2))
    ⟨[], rfl, rfl, rfl, (fun q hq => nomatch hq), (fun j q hq => by simp at hq)⟩ ?step ?fin
  case step =>
    rintro i ys news v I oI C oC D m₂ hh tk E' hi ⟨tn, rfl, ln, rfl, far, hit⟩ hv hC hx FB NB off ne
    obtain ⟨k, hk, rfl⟩ : ∃ k, ks[i]? = some k ∧ v = .ref (ad k) := by
      simp only [List.getElem?_toArray, List.getElem?_map, Option.map_eq_some_iff] at hv
      obtain ⟨k, hk, e⟩ := hv
      exact ⟨k, hk, e.symm⟩
    obtain ⟨k6, o, mo, t1, t2, t3, no, rfl⟩ := hits k (List.mem_of_getElem? hk)
    clear F N
    k_steps
    refine Halt.of (turned_new_T FB NB KX T (t1 := t1) (t2 := t2) (t3 := t3) (n := no) (.tail _ (.tail _ (.tail _ (List.mem_append_right _ mo)))) (od_pm (by omega) (by omega)) (by exact rfl) (by exact Nat.le_of_ble_eq_true rfl) (by exact Nat.le_of_ble_eq_true rfl) ?_)
    intro D9 h9 tk9 u1 u2 u3 n9 F9 N9 far9
    have mk : (ad k, ({ cls := .type "tuple", data := .seq #[.int (od (k : Int) 0) t1, .int (od (k : Int) 1) t2, .int (od (k : Int) 2) t3] no } : Obj)) ∈ tn ++ tl := List.mem_append_right _ mo
    have nt : ∀ p ∈ tl, NotTup p.2 → p.1 ≠ ad k := fun p hp np e => by
      have z1 := (NB p (.tail _ (.tail _ (.tail _ (List.mem_append_right _ hp))))).1
      have z2 := (NB _ (.tail _ (.tail _ (.tail _ mk)))).1
      rw [e, z2] at z1
      exact np _ _ (Option.some.inj z1).symm
    have ok := LCg.Off3.mem off _ mk
    clear FB NB
    k_steps
    have sub : ∀ q ∈ (tn ++ [(D9, ({ cls := .type "tuple", data := .seq #[.int (td k 0) u1, .int (td k 1) u2, .int (td k 2) u3] n9 } : Obj))]) ++ tl, q ∈ tn ++ tl ∨ q = (D9, ({ cls := .type "tuple", data := .seq #[.int (td k 0) u1, .int (td k 1) u2, .int (td k 2) u3] n9 } : Obj)) := fun q hq => by
      rcases List.mem_append.mp hq with hq | hq
      · rcases List.mem_append.mp hq with hq | hq
        · exact .inl (List.mem_append_left _ hq)
        · exact .inr (List.mem_singleton.mp hq)
      · exact .inl (List.mem_append_right _ hq)
    refine Halt.of (LCg.CompEnd.intro F9 N9 ((tn ++ [(D9, ({ cls := .type "tuple", data := .seq #[.int (td k 0) u1, .int (td k 1) u2, .int (td k 2) u3] n9 } : Obj))]) ++ tl) ?_ (LCg.Off3.of fun q hq => ?_) (.inr ⟨_, List.mem_append_right _ mD, rfl, _, rfl⟩) ⟨_, rfl, by simp [ln], by simp, fun q hq => ?_, fun j q hq => ?_⟩)
    · refine List.forall_mem_cons.mpr ⟨.tail _ (.head _), List.forall_mem_cons.mpr ⟨.tail _ (.tail _ (.head _)), List.forall_mem_cons.mpr ⟨.tail _ (.tail _ (.tail _ (.head _))), fun q hq => ?_⟩⟩⟩
      rcases sub q hq with hq | rfl
      · exact .tail _ (.tail _ (.tail _ (.tail _ hq)))
      · exact .head _
    · rcases sub q hq with hq | rfl
      · exact LCg.Off3.mem off q hq
      · exact ⟨Ne.symm (far9 _ (.head _) (Ne.symm ok.1)), Ne.symm (far9 _ (.tail _ (.head _)) (Ne.symm ok.2.1)), Ne.symm (far9 _ (.tail _ (.tail _ (.head _))) (Ne.symm ok.2.2))⟩
    · rcases List.mem_append.mp hq with hq | hq
      · exact far q hq
      · rw [List.mem_singleton.mp hq]
        exact fun p hp np => far9 p (.tail _ (.tail _ (.tail _ (List.mem_append_right _ hp)))) (nt p hp np)
    · by_cases e : j < tn.length
      · rw [List.getElem?_append_left e] at hq
        exact hit j q hq
      · rw [List.getElem?_append_right (by omega)] at hq
        have e2 : j = i := by
          refine Classical.byContradiction fun e2 => ?_
          rw [List.getElem?_eq_none (by simp; omega)] at hq
          cases hq
        subst e2
        rw [ln, Nat.sub_self] at hq
        cases hq
        exact ⟨k, hk, _, _, _, _, rfl⟩
  case fin =>
    rintro ys news ⟨tn, rfl, ln, rfl, far, hit⟩
    k_steps
    rename_i D9 h9 tk9 F9 N9 of9
    have ofm := off1_mem of9
    exact hQ _ _ D9 _ tn F9 N9 far (fun p hp => ofm p (List.mem_append_right _ hp)) (ln.trans sz) hit
end
/-- a list of tuples of three -/
def Items (news : List (Addr × Obj)) (vs : List Value) (n : Nat) (P : Nat → Int → Int) : Prop := vs.length = n ∧ ∀ (i : Nat) (v : Value), vs[i]? = some v → ∃ a o, v = .ref a ∧ (a, o) ∈ news ∧ IsT3 o (P i 0) (P i 1) (P i 2)
theorem Items.mono {news news' : List (Addr × Obj)} {vs : List Value} {n : Nat} {P : Nat → Int → Int} (h : Items news vs n P) (s : ∀ q ∈ news, q ∈ news') : Items news' vs n P := ⟨h.1, fun i v e => let ⟨a, o, e1, m, t⟩ := h.2 i v e; ⟨a, o, e1, s _ m, t⟩⟩
def IsS3 (o : Obj) (x y z : Int) : Prop := IsT3 o x y z ∨ ∃ t1 t2 t3 n, o = listOf #[.int x t1, .int y t2, .int z t3] n
def dt (p : Int → Int) : Dat := .tuple [.int (p 0), .int (p 1), .int (p 2)]
theorem datIn_t3 {news : List (Addr × Obj)} {a : Addr} {o : Obj} {p : Int → Int} (m : (a, o) ∈ news) (h : IsT3 o (p 0) (p 1) (p 2)) : DatIn news (.ref a) (dt p) := by
  obtain ⟨t1, t2, t3, n, rfl⟩ := h
  exact .tuple (vs := [.int (p 0) t1, .int (p 1) t2, .int (p 2) t3]) m (.cons (.int _ _) (.cons (.int _ _) (.cons (.int _ _) .nil)))
theorem datAll_of {news : List (Addr × Obj)} : ∀ (vs : List Value) (P : Nat → Int → Int), (∀ (i : Nat) (v : Value), vs[i]? = some v → ∃ a o, v = .ref a ∧ (a, o) ∈ news ∧ IsT3 o (P i 0) (P i 1) (P i 2)) → DatAll news vs ((List.range vs.length).map fun i => dt (P i))
  | [], _, _ => .nil
  | v :: vs, P, h => by
    obtain ⟨a, o, rfl, m, t⟩ := h 0 v rfl
    rw [List.length_cons, List.range_succ_eq_map, List.map_cons, List.map_map]
    exact .cons (datIn_t3 m t) (datAll_of vs (fun i => P (i + 1)) (fun i v e => h (i + 1) v e))
theorem notin_items {prog : Program} {w : World} {A : Around} {E : Value → Shared → Prop} {s : Shared} {h₀ : Heap} {L l x : Addr} {news : List (Addr × Obj)} {vs : List Value} {n k : Nat} {P : Nat → Int → Int} {ox : Obj} {p : Int → Int} {Q : Value → Shared → Prop}
    (N : News h₀ L s.heap news) (ml : (l, listOf vs.toArray k) ∈ news) (I : Items news vs n P) (mx : (x, ox) ∈ news) (ix : IsT3 ox (p 0) (p 1) (p 2)) (hu : A.units + 64 < cLine) (hin : ∃ i, i < n ∧ P i 0 = p 0 ∧ P i 1 = p 1 ∧ P i 2 = p 2)
    (h : Q (.bool false) s) : wpAny (model prog w) A (compareOp .NotIn (.ref x) (.ref l)) Q E s := by
  refine kqd_notIn (d := dt p) (ds := (List.range vs.length).map fun i => dt (P i)) N ml rfl rfl (datAll_of vs P I.2) (fun _ h => h) (datIn_t3 mx ix) (fun _ h => h) (fun d hd => ?_) rfl hu ?_
  · obtain ⟨i, _, rfl⟩ := List.mem_map.mp hd
    rfl
  · have hm : dt p ∈ (List.range vs.length).map fun i => dt (P i) := by
      obtain ⟨i, hi, e0, e1, e2⟩ := hin
      refine List.mem_map.mpr ⟨i, List.mem_range.mpr (by rw [I.1]; exact hi), ?_⟩
      unfold dt
      rw [e0, e1, e2]
    simpa [hm] using h
theorem best_line {w : World} {mean : ExcName → Option Value} {mg mb : Str → Option Value} {A : Around} {E : Value → Shared → Prop} {Q : Value → Shared → Prop} {s : Shared} {h₀ : Heap} {L : Addr} {m : Str → Option Value} {news : List (Addr × Obj)}
    {pa ho oa a0 a1 a2 : Addr} {po c0 c1 c2 : Obj} {n k n2 : Nat} {vs : List Value} {P : Nat → Int → Int} {p : Int → Int} {O : Int → Int → Int}
    (F : Fr h₀ L s.heap m) (N : News h₀ L s.heap news) (KX : (HK w.params).In h₀) (T : Top VW LL mean mg mb h₀)
    (mp : (pa, po) ∈ news) (ip : IsS3 po (p 0) (p 1) (p 2)) (mh : (ho, listOf vs.toArray k) ∈ news) (I : Items news vs n P) (hn1 : n ≤ 6) (hn0 : 0 < n) (hP : ∀ i, i < n → Pm (P i 0) (P i 1) (P i 2))
    (mo : (oa, listOf #[.ref a0, .ref a1, .ref a2] n2) ∈ news) (e0 : (a0, c0) ∈ news) (e1 : (a1, c1) ∈ news) (e2 : (a2, c2) ∈ news) (i0 : IsT3 c0 (O 0 0) (O 0 1) (O 0 2)) (i1 : IsT3 c1 (O 1 0) (O 1 1) (O 1 2)) (i2 : IsT3 c2 (O 2 0) (O 2 1) (O 2 2)) (pO : Pms O) (Pp : Pm (p 0) (p 1) (p 2))
    (hE : ∀ w : Int, 0 ≤ w → w ≤ 2 → (∃ i, i < n ∧ rk (O w 0) (O w 1) (O w 2) (pk w (p 0) (p 1) (p 2)) = rk (O w 0) (O w 1) (O w 2) (pk w (P i 0) (P i 1) (P i 2))) ∧
      (∀ i, i < n → rk (O w 0) (O w 1) (O w 2) (pk w (p 0) (p 1) (p 2)) ≤ rk (O w 0) (O w 1) (O w 2) (pk w (P i 0) (P i 1) (P i 2)))) (hh : A.handled = none) (u1 : A.depth ≤ 800) (u2 : A.units ≤ 3000)
    (h : ∀ h' tk, Fr h₀ L h' m → News h₀ L h' news → Q (.bool true) { s with heap := h', toks := tk }) :
    wpAny (model pw w) A (call (.ref 260) [.ref pa, .ref ho, .ref oa, .bool true]) Q E s := by
  have sz : vs.toArray.size = n := by rw [List.size_toArray]; exact I.1
  have t3 : ∀ {a o x y z}, (a, o) ∈ news → IsT3 o x y z → T3At s.heap a x y z := fun m i => ⟨_, (N _ m).1, i⟩
  have sp : S3At s.heap pa (p 0) (p 1) (p 2) := by
    rcases ip with i | ⟨t1, t2, t3', n', rfl⟩
    · exact .inl (t3 mp i)
    · exact .inr ⟨t1, t2, t3', n', (N _ mp).1⟩
  refine wk hh u1 u2 (wpAny_mono (ends_best w KX T s F.keep pa ho oa a0 a1 a2 n vs.toArray P p O sp (PySem.IsL.isList (n := k) (N _ mh).1) sz hn1 (by rw [sz]; exact Nat.le_trans hn1 (by exact Nat.le_of_ble_eq_true rfl)) hn0 (fun i v e => ?_) hP
    (PySem.IsL.isList (n := n2) (N _ mo).1) (t3 e0 i0) (t3 e1 i1) (t3 e2 i2) Pp (pO 0 (by decide) (by decide)) (pO 1 (by decide) (by decide)) (pO 2 (by decide) (by decide)) hE Q (fun h' tk x => h h' tk (F.keeps x) (News.keepsAll N x))) (fun _ _ q => q) fun _ _ q => q.elim)
  rw [List.getElem?_toArray] at e
  obtain ⟨a, o, rfl, m, t⟩ := I.2 i v e
  exact ⟨a, rfl, t3 m t⟩
theorem worst_line {w : World} {mean : ExcName → Option Value} {mg mb : Str → Option Value} {A : Around} {E : Value → Shared → Prop} {Q : Value → Shared → Prop} {s : Shared} {h₀ : Heap} {L : Addr} {m : Str → Option Value} {news : List (Addr × Obj)}
    {pa ho oa a0 a1 a2 : Addr} {po c0 c1 c2 : Obj} {n k n2 : Nat} {vs : List Value} {P : Nat → Int → Int} {p : Int → Int} {O : Int → Int → Int}
    (F : Fr h₀ L s.heap m) (N : News h₀ L s.heap news) (KX : (HK w.params).In h₀) (T : Top VW LL mean mg mb h₀)
    (mp : (pa, po) ∈ news) (ip : IsS3 po (p 0) (p 1) (p 2)) (mh : (ho, listOf vs.toArray k) ∈ news) (I : Items news vs n P) (hn1 : n ≤ 6) (hn0 : 0 < n) (hP : ∀ i, i < n → Pm (P i 0) (P i 1) (P i 2))
    (mo : (oa, listOf #[.ref a0, .ref a1, .ref a2] n2) ∈ news) (e0 : (a0, c0) ∈ news) (e1 : (a1, c1) ∈ news) (e2 : (a2, c2) ∈ news) (i0 : IsT3 c0 (O 0 0) (O 0 1) (O 0 2)) (i1 : IsT3 c1 (O 1 0) (O 1 1) (O 1 2)) (i2 : IsT3 c2 (O 2 0) (O 2 1) (O 2 2)) (pO : Pms O) (Pp : Pm (p 0) (p 1) (p 2))
    (hE : ∀ w : Int, 0 ≤ w → w ≤ 2 → (∃ i, i < n ∧ rk (O w 0) (O w 1) (O w 2) (pk w (p 0) (p 1) (p 2)) = rk (O w 0) (O w 1) (O w 2) (pk w (P i 0) (P i 1) (P i 2))) ∧
      (∀ i, i < n → rk (O w 0) (O w 1) (O w 2) (pk w (P i 0) (P i 1) (P i 2)) ≤ rk (O w 0) (O w 1) (O w 2) (pk w (p 0) (p 1) (p 2)))) (hh : A.handled = none) (u1 : A.depth ≤ 800) (u2 : A.units ≤ 3000)
    (h : ∀ h' tk, Fr h₀ L h' m → News h₀ L h' news → Q (.bool true) { s with heap := h', toks := tk }) :
    wpAny (model pw w) A (call (.ref 260) [.ref pa, .ref ho, .ref oa, .bool false]) Q E s := by
  have sz : vs.toArray.size = n := by rw [List.size_toArray]; exact I.1
  have t3 : ∀ {a o x y z}, (a, o) ∈ news → IsT3 o x y z → T3At s.heap a x y z := fun m i => ⟨_, (N _ m).1, i⟩
  have sp : S3At s.heap pa (p 0) (p 1) (p 2) := by
    rcases ip with i | ⟨t1, t2, t3', n', rfl⟩
    · exact .inl (t3 mp i)
    · exact .inr ⟨t1, t2, t3', n', (N _ mp).1⟩
  refine wk hh u1 u2 (wpAny_mono (ends_worst w KX T s F.keep pa ho oa a0 a1 a2 n vs.toArray P p O sp (PySem.IsL.isList (n := k) (N _ mh).1) sz hn1 (by rw [sz]; exact Nat.le_trans hn1 (by exact Nat.le_of_ble_eq_true rfl)) hn0 (fun i v e => ?_) hP
    (PySem.IsL.isList (n := n2) (N _ mo).1) (t3 e0 i0) (t3 e1 i1) (t3 e2 i2) Pp (pO 0 (by decide) (by decide)) (pO 1 (by decide) (by decide)) (pO 2 (by decide) (by decide)) hE Q (fun h' tk x => h h' tk (F.keeps x) (News.keepsAll N x))) (fun _ _ q => q) fun _ _ q => q.elim)
  rw [List.getElem?_toArray] at e
  obtain ⟨a, o, rfl, m, t⟩ := I.2 i v e
  exact ⟨a, rfl, t3 m t⟩
theorem paired_line {w : World} {mean : ExcName → Option Value} {mg mb : Str → Option Value} {A : Around} {E : Value → Shared → Prop} {Q : Value → Shared → Prop} {s : Shared} {h₀ : Heap} {L : Addr} {m : Str → Option Value} {news : List (Addr × Obj)} {gU : Obj → List (Addr × Obj)}
    {ws bag sl : Addr} {mine theirs : Str} {vs : List Value} {ns nsM nsT : List Int} {how spot : Int} {n n2 : Nat} {t1 t2 t3 t4 : Tok} {S B : Int → Int → Int}
    (F : Fr h₀ L s.heap m) (N : News h₀ L s.heap news) (KX : (HK w.params).In h₀) (T : Top VW LL mean mg mb h₀) (U : UpdF bag (listOf #[.ref sl, .int spot t1] n) news gU) (msl : (sl, listOf vs.toArray n2) ∈ news) (hne : @Ne Nat sl bag) (hi : IntsAre vs ns) (hlen : ns.length < 2 ^ 62)
    (h0 : 0 ≤ spot) (h1 : spot < 900) (hh0 : 0 ≤ how) (hh1 : how ≤ 2) (GM : GetAt w h₀ s.heap ws mine nsM) (GT : GetAt w h₀ s.heap ws theirs nsT) (lS : Laid S 9 nsM) (lB : Laid B 9 nsT) (pS : Pms S) (pB : Pms B) (hh : A.handled = none) (e1 : A.depth ≤ 600) (e2 : A.units ≤ 2000)
    (h : ∀ D hdx h' tk x y z asks ta tb tc td spot' t3 c1 c2, (spot ≤ spot' ∧ spot' ≤ spot + 10) → Good S B x y z asks → (@LT.lt Nat _ bag hdx ∧ @LT.lt Nat _ bag D) → Fr h₀ L h' m →
      News h₀ L h' ((D, ({ cls := .type "tuple", data := .seq #[.ref hdx, .int asks td] c2 } : Obj)) :: (hdx, listOf #[.int x ta, .int y tb, .int z tc] c1) :: gU (listOf #[.ref sl, .int spot' t3] n)) → Q (.ref D) { s with heap := h', toks := tk }) :
    wpAny (model pw w) A (call (.ref 248) [.ref ws, .str mine t2, .str theirs t3, .int how t4, .ref bag]) Q E s := by
  have mbag : (bag, listOf #[.ref sl, .int spot t1] n) ∈ news := by
    obtain ⟨own, rest, rfl, _⟩ := U.split
    exact List.mem_append_right _ (.head _)
  refine wk hh e1 e2 (wpAny_mono (paired_walk w KX T s F.keep ws bag sl mine theirs vs ns nsM nsT how spot n n2 t1 t2 t3 t4 S B (mu_in N (List.forall_mem_cons.mpr ⟨mbag, List.forall_mem_nil _⟩)) (N _ msl).1 (N _ msl).2.2 hne hi hlen h0 h1 hh0 hh1 GM GT
    (fun i j a b c d => lS.2 i j a b c d (by omega)) (fun i j a b c d => lB.2 i j a b c d (by omega)) pS pB Q (fun D hdx h' tk x y z asks ta tb tc td spot' t3' c1 c2 eb sp G lt M => ?_)) (fun _ _ q => q) fun _ _ q => q.elim)
  have hg : h'.get? bag = some (listOf #[.ref sl, .int spot' t3'] n) := (M _ (.tail _ (.tail _ (.head _)))).1
  obtain ⟨own, rest, rfl, hgg, n1, n2'⟩ := U.split
  have hm := N _ mbag
  have k : ∀ b ob, s.heap.get? b = some ob → b ≠ bag → h'.get? b = some ob := fun b ob e n => eb b ob e (fun q => n (List.mem_singleton.mp q))
  have F' : Fr h₀ L h' m := ⟨F.ns.at fun ob e => k _ _ e hm.2.1.symm, fun b ob e => k b ob (F.keep b ob e) (fun q => by rw [q, hm.2.2] at e; cases e), F.above⟩
  have NU : News h₀ L h' (gU (listOf #[.ref sl, .int spot' t3'] n)) := by
    rw [hgg]
    intro q hq
    rcases List.mem_append.mp hq with hq | hq
    · have z := N q (List.mem_append_left _ hq)
      exact ⟨k _ _ z.1 (n1 q hq), z.2⟩
    · rcases List.mem_cons.mp hq with rfl | hq
      · exact ⟨hg, hm.2⟩
      · have z := N q (List.mem_append_right _ (.tail _ hq))
        exact ⟨k _ _ z.1 (n2' q hq), z.2⟩
  have nL : ∀ q ∈ [(D, ({ cls := .type "tuple", data := .seq #[.ref hdx, .int asks td] c2 } : Obj)), (hdx, listOf #[.int x ta, .int y tb, .int z tc] c1)], q.1 ≠ L := fun q hq e => by
    obtain ⟨oL, es, ep, hL, hLd, _⟩ := F'.ns
    have z9 := (M q (List.mem_append_left _ hq)).1
    rw [e, hL] at z9
    have e9 := Option.some.inj z9
    simp only [List.mem_cons, List.not_mem_nil, or_false] at hq
    rcases hq with rfl | rfl
    · rw [e9] at hLd; cases hLd
    · rw [e9] at hLd; cases hLd
  refine h D hdx h' tk x y z asks ta tb tc td spot' t3' c1 c2 sp G lt F' (List.forall_mem_cons.mpr ⟨⟨(M _ (.head _)).1, nL _ (.head _), (M _ (.head _)).2⟩, List.forall_mem_cons.mpr ⟨⟨(M _ (.tail _ (.head _))).1, nL _ (.tail _ (.head _)), (M _ (.tail _ (.head _))).2⟩, NU⟩⟩)
theorem news_ne {h₀ h : Heap} {L a b : Addr} {oa ob : Obj} {news : List (Addr × Obj)} (N : News h₀ L h news) (ma : (a, oa) ∈ news) (mb : (b, ob) ∈ news) (ne : oa ≠ ob) : @Ne Nat a b := fun e => by
  have z1 := (N _ ma).1
  have z2 := (N _ mb).1
  have e' : a = b := e
  rw [e', z2] at z1
  exact ne (Option.some.inj z1).symm
theorem rk_rk {x y z j : Int} (P : Pm x y z) (h0 : 0 ≤ j) (h1 : j ≤ 2) : rk (rk x y z 0) (rk x y z 1) (rk x y z 2) j = pk j x y z := by
  have e1 := rk_at P h0 h1
  have v0 := P.pk_lo j
  have v1 := P.pk_hi j
  have e2 : pk (pk j x y z) (rk x y z 0) (rk x y z 1) (rk x y z 2) = rk x y z (pk j x y z) := pk_fn (f := fun v => rk x y z v) v0 v1
  have e3 := rk_at (pm_rk P) v0 v1
  rw [e2, e1] at e3
  exact e3
theorem perm_od {a b c : Int} (P : Pm a b c) : ∃ k : Nat, k < 6 ∧ od (k : Int) 0 = a ∧ od (k : Int) 1 = b ∧ od (k : Int) 2 = c := by
  obtain ⟨⟨a0, a1⟩, ⟨b0, b1⟩, ⟨c0, c1⟩, ab, ac, bc⟩ := P
  rcases three a0 a1 with rfl | rfl | rfl
  · rcases three b0 b1 with rfl | rfl | rfl
    · exact absurd rfl ab
    · obtain rfl : c = 2 := by omega
      exact ⟨0, by decide, by decide, by decide, by decide⟩
    · obtain rfl : c = 1 := by omega
      exact ⟨2, by decide, by decide, by decide, by decide⟩
  · rcases three b0 b1 with rfl | rfl | rfl
    · obtain rfl : c = 2 := by omega
      exact ⟨3, by decide, by decide, by decide, by decide⟩
    · exact absurd rfl ab
    · obtain rfl : c = 0 := by omega
      exact ⟨1, by decide, by decide, by decide, by decide⟩
  · rcases three b0 b1 with rfl | rfl | rfl
    · obtain rfl : c = 1 := by omega
      exact ⟨5, by decide, by decide, by decide, by decide⟩
    · obtain rfl : c = 0 := by omega
      exact ⟨4, by decide, by decide, by decide, by decide⟩
    · exact absurd rfl ab
theorem stable_congr {S B : Int → Int → Int} {p q : Int → Int} (e0 : p 0 = q 0) (e1 : p 1 = q 1) (e2 : p 2 = q 2) (h : Stable S B p) : Stable S B q := by
  intro w g w0 w1 g0 g1
  have := h w g w0 w1 g0 g1
  unfold Blk at this ⊢
  rw [← e0, ← e1, ← e2]
  exact this
theorem stable_swap {S B : Int → Int → Int} {x y z : Int} (P : Pm x y z) (h : Stable S B (fun w => rk x y z w)) : Stable B S (fun g => pk g x y z) := by
  rintro g w g0 g1 w0 w1 ⟨h1, h2⟩
  refine h w g w0 w1 g0 g1 ⟨?_, ?_⟩
  · have e : pk w (rk x y z 0) (rk x y z 1) (rk x y z 2) = rk x y z w := pk_fn (f := fun v => rk x y z v) w0 w1
    rw [e]
    exact h2
  · rw [rk_rk P g0 g1]
    exact h1
theorem getD_of_mem {ks : List Nat} {k : Nat} (h : k ∈ ks) : ∃ i, i < ks.length ∧ ks.getD i 0 = k := by
  obtain ⟨i, hi, e⟩ := List.mem_iff_getElem.mp h
  exact ⟨i, hi, by rw [List.getD_eq_getElem?_getD, List.getElem?_eq_getElem hi]; exact e⟩
theorem getD_in {ks : List Nat} {i : Nat} (h : i < ks.length) : ks.getD i 0 ∈ ks := by
  rw [List.getD_eq_getElem?_getD, List.getElem?_eq_getElem h]
  exact List.getElem_mem h
section
variable {S B : Int → Int → Int} {x y z asks : Int}
theorem od_pmf {k : Nat} (h : k < 6) : Pmf (od (k : Int)) := od_pm (by omega) (by omega)
/-- an order that holds has its place -/
theorem place_of {p : Int → Int} (P : Pmf p) (h : Stable S B p) : ∃ i, i < (ksTo S B 6).length ∧ od ((ksTo S B 6).getD i 0 : Int) 0 = p 0 ∧ od ((ksTo S B 6).getD i 0 : Int) 1 = p 1 ∧ od ((ksTo S B 6).getD i 0 : Int) 2 = p 2 := by
  obtain ⟨k, k6, e0, e1, e2⟩ := perm_od P
  obtain ⟨i, hi, e⟩ := getD_of_mem (ksTo_mem.mpr ⟨k6, stable_congr e0.symm e1.symm e2.symm h⟩)
  exact ⟨i, hi, by rw [e]; exact e0, by rw [e]; exact e1, by rw [e]; exact e2⟩
theorem ks_at {i : Nat} (h : i < (ksTo S B 6).length) : (ksTo S B 6).getD i 0 < 6 ∧ Stable S B (od ((ksTo S B 6).getD i 0 : Int)) := ksTo_mem.mp (getD_in h)
theorem ks_len : (ksTo S B 6).length ≤ 6 := by
  unfold ksTo
  refine Nat.le_trans (List.length_filter_le _ _) ?_
  rw [List.length_range]
  exact Nat.le_refl _
theorem td_pm {i : Nat} (h : i < (ksTo S B 6).length) : Pm (td ((ksTo S B 6).getD i 0) 0) (td ((ksTo S B 6).getD i 0) 1) (td ((ksTo S B 6).getD i 0) 2) := pm_rk (od_pmf (ks_at h).1)
/-- the worst for each who is asked -/
theorem Good.worst (G : Good S B x y z asks) (pS : Pms S) {p : Int → Int} (P : Pmf p) (hp : Stable S B p) {g : Int} (g0 : 0 ≤ g) (g1 : g ≤ 2) : R B g (rk (p 0) (p 1) (p 2) g) ≤ R B g (pk g x y z) := by
  refine Int.not_lt.mp fun lt => ?_
  have u0 := G.pm.pk_lo g
  have u1 := G.pm.pk_hi g
  have eu := rk_at G.pm g0 g1
  have v0 := rk_lo (p 0) (p 1) (p 2) g
  have v1 := rk_hi (p 0) (p 1) (p 2) g
  have ev : p (rk (p 0) (p 1) (p 2) g) = g := by
    rw [← pk_fn (f := p) v0 v1]
    exact rk_pk P g0 g1
  have b := G.best p P hp _ u0 u1
  rw [eu] at b
  have nu : R S (pk g x y z) g ≠ R S (pk g x y z) (p (pk g x y z)) := fun e => by
    have pi := pmf_in P u0 u1
    have e2 := rk_inj (pS _ u0 u1) g0 g1 pi.1 pi.2 e
    have e3 := pmf_inj P v0 v1 u0 u1 (ev.trans e2)
    rw [e3] at lt
    exact absurd lt (by omega)
  exact blocks P hp u0 u1 g0 g1 v0 v1 ev (by omega) lt
theorem pk_three {a b c : Int} : pk 0 a b c = a ∧ pk 1 a b c = b ∧ pk 2 a b c = c := ⟨rfl, rfl, rfl⟩
theorem Good.len (G : Good S B x y z asks) : 0 < (ksTo S B 6).length := by
  obtain ⟨i, hi, _⟩ := place_of (p := fun w => rk x y z w) (pm_rk G.pm) G.st
  omega
theorem Good.inT (G : Good S B x y z asks) : ∃ i, i < (ksTo S B 6).length ∧ td ((ksTo S B 6).getD i 0) 0 = x ∧ td ((ksTo S B 6).getD i 0) 1 = y ∧ td ((ksTo S B 6).getD i 0) 2 = z := by
  obtain ⟨i, hi, e0, e1, e2⟩ := place_of (p := fun w => rk x y z w) (pm_rk G.pm) G.st
  refine ⟨i, hi, ?_, ?_, ?_⟩ <;> (unfold td; rw [e0, e1, e2])
  · exact rk_rk G.pm (by decide) (by decide)
  · exact rk_rk G.pm (by decide) (by decide)
  · exact rk_rk G.pm (by decide) (by decide)
theorem Good.hBest (G : Good S B x y z asks) : ∀ w : Int, 0 ≤ w → w ≤ 2 → (∃ i, i < (ksTo S B 6).length ∧ rk (S w 0) (S w 1) (S w 2) (pk w (rk x y z 0) (rk x y z 1) (rk x y z 2)) = rk (S w 0) (S w 1) (S w 2) (pk w (od ((ksTo S B 6).getD i 0 : Int) 0) (od ((ksTo S B 6).getD i 0 : Int) 1) (od ((ksTo S B 6).getD i 0 : Int) 2))) ∧
      (∀ i, i < (ksTo S B 6).length → rk (S w 0) (S w 1) (S w 2) (pk w (rk x y z 0) (rk x y z 1) (rk x y z 2)) ≤ rk (S w 0) (S w 1) (S w 2) (pk w (od ((ksTo S B 6).getD i 0 : Int) 0) (od ((ksTo S B 6).getD i 0 : Int) 1) (od ((ksTo S B 6).getD i 0 : Int) 2))) := by
  intro w w0 w1
  refine ⟨?_, fun i hi => ?_⟩
  · obtain ⟨i, hi, e0, e1, e2⟩ := place_of (p := fun w => rk x y z w) (pm_rk G.pm) G.st
    exact ⟨i, hi, by rw [e0, e1, e2]⟩
  · obtain ⟨k6, st⟩ := ks_at hi
    have b := G.best _ (od_pmf k6) st w w0 w1
    have e : pk w (rk x y z 0) (rk x y z 1) (rk x y z 2) = rk x y z w := pk_fn (f := fun v => rk x y z v) w0 w1
    rw [e, pk_fn (f := od ((ksTo S B 6).getD i 0 : Int)) w0 w1]
    exact b
theorem Good.hWorst (G : Good S B x y z asks) (pS : Pms S) : ∀ g : Int, 0 ≤ g → g ≤ 2 → (∃ i, i < (ksTo S B 6).length ∧ rk (B g 0) (B g 1) (B g 2) (pk g x y z) = rk (B g 0) (B g 1) (B g 2) (pk g (td ((ksTo S B 6).getD i 0) 0) (td ((ksTo S B 6).getD i 0) 1) (td ((ksTo S B 6).getD i 0) 2))) ∧
      (∀ i, i < (ksTo S B 6).length → rk (B g 0) (B g 1) (B g 2) (pk g (td ((ksTo S B 6).getD i 0) 0) (td ((ksTo S B 6).getD i 0) 1) (td ((ksTo S B 6).getD i 0) 2)) ≤ rk (B g 0) (B g 1) (B g 2) (pk g x y z)) := by
  intro g g0 g1
  refine ⟨?_, fun i hi => ?_⟩
  · obtain ⟨i, hi, e0, e1, e2⟩ := G.inT
    exact ⟨i, hi, by rw [e0, e1, e2]⟩
  · obtain ⟨k6, st⟩ := ks_at hi
    rw [pk_fn (f := td ((ksTo S B 6).getD i 0)) g0 g1]
    exact G.worst pS (od_pmf k6) st g0 g1
/-- the other way about -/
theorem Good.inH (G : Good B S x y z asks) : ∃ i, i < (ksTo S B 6).length ∧ od ((ksTo S B 6).getD i 0 : Int) 0 = x ∧ od ((ksTo S B 6).getD i 0 : Int) 1 = y ∧ od ((ksTo S B 6).getD i 0 : Int) 2 = z :=
  place_of (p := fun g => pk g x y z) G.pm (stable_swap G.pm G.st)
theorem td_stable {k : Nat} (k6 : k < 6) (st : Stable S B (od (k : Int))) : Stable B S (td k) := by
  have P : Pmf (od (k : Int)) := od_pmf k6
  refine stable_congr (p := fun g => pk g (td k 0) (td k 1) (td k 2)) rfl rfl rfl (stable_swap (pm_rk P) ?_)
  refine stable_congr ?_ ?_ ?_ st
  · exact (rk_rk P (by decide) (by decide)).symm
  · exact (rk_rk P (by decide) (by decide)).symm
  · exact (rk_rk P (by decide) (by decide)).symm
theorem Good.hBestT (G : Good B S x y z asks) : ∀ g : Int, 0 ≤ g → g ≤ 2 → (∃ i, i < (ksTo S B 6).length ∧ rk (B g 0) (B g 1) (B g 2) (pk g (rk x y z 0) (rk x y z 1) (rk x y z 2)) = rk (B g 0) (B g 1) (B g 2) (pk g (td ((ksTo S B 6).getD i 0) 0) (td ((ksTo S B 6).getD i 0) 1) (td ((ksTo S B 6).getD i 0) 2))) ∧
      (∀ i, i < (ksTo S B 6).length → rk (B g 0) (B g 1) (B g 2) (pk g (rk x y z 0) (rk x y z 1) (rk x y z 2)) ≤ rk (B g 0) (B g 1) (B g 2) (pk g (td ((ksTo S B 6).getD i 0) 0) (td ((ksTo S B 6).getD i 0) 1) (td ((ksTo S B 6).getD i 0) 2))) := by
  intro g g0 g1
  refine ⟨?_, fun i hi => ?_⟩
  · obtain ⟨i, hi, e0, e1, e2⟩ := G.inH
    refine ⟨i, hi, ?_⟩
    unfold td
    rw [e0, e1, e2]
  · obtain ⟨k6, st⟩ := ks_at hi
    have b := G.best _ (pm_rk (od_pmf k6)) (td_stable k6 st) g g0 g1
    have e : pk g (rk x y z 0) (rk x y z 1) (rk x y z 2) = rk x y z g := pk_fn (f := fun v => rk x y z v) g0 g1
    rw [e, pk_fn (f := td ((ksTo S B 6).getD i 0)) g0 g1]
    exact b
theorem Good.hWorstH (G : Good B S x y z asks) (pB : Pms B) : ∀ w : Int, 0 ≤ w → w ≤ 2 → (∃ i, i < (ksTo S B 6).length ∧ rk (S w 0) (S w 1) (S w 2) (pk w x y z) = rk (S w 0) (S w 1) (S w 2) (pk w (od ((ksTo S B 6).getD i 0 : Int) 0) (od ((ksTo S B 6).getD i 0 : Int) 1) (od ((ksTo S B 6).getD i 0 : Int) 2))) ∧
      (∀ i, i < (ksTo S B 6).length → rk (S w 0) (S w 1) (S w 2) (pk w (od ((ksTo S B 6).getD i 0 : Int) 0) (od ((ksTo S B 6).getD i 0 : Int) 1) (od ((ksTo S B 6).getD i 0 : Int) 2)) ≤ rk (S w 0) (S w 1) (S w 2) (pk w x y z)) := by
  intro w w0 w1
  refine ⟨?_, fun i hi => ?_⟩
  · obtain ⟨i, hi, e0, e1, e2⟩ := G.inH
    exact ⟨i, hi, by rw [e0, e1, e2]⟩
  · obtain ⟨k6, st⟩ := ks_at hi
    have b := G.worst pB (p := td ((ksTo S B 6).getD i 0)) (pm_rk (od_pmf k6)) (td_stable k6 st) w0 w1
    have e : rk (td ((ksTo S B 6).getD i 0) 0) (td ((ksTo S B 6).getD i 0) 1) (td ((ksTo S B 6).getD i 0) 2) w = pk w (od ((ksTo S B 6).getD i 0 : Int) 0) (od ((ksTo S B 6).getD i 0 : Int) 1) (od ((ksTo S B 6).getD i 0 : Int) 2) := rk_rk (od_pmf k6) w0 w1
    rw [e] at b
    exact b
end
def howBody : List Stmt := match lawSt 6 with
  | .For _ _ b _ _ => b
  | _ => []
abbrev nm3 (ws Dh Dt : Addr) (m : Str → Option Value) : Str → Option Value := fun y => if y = Str.ofString "world" then some (.ref ws) else if y = Str.ofString "holding" then some (.ref Dh) else if y = Str.ofString "turned" then some (.ref Dt) else m y
theorem nm3_self {ws Dh Dt : Addr} {m : Str → Option Value} (a : m (Str.ofString "world") = some (.ref ws)) (b : m (Str.ofString "holding") = some (.ref Dh)) (c : m (Str.ofString "turned") = some (.ref Dt)) (y : Str) : m y = nm3 ws Dh Dt m y := by
  unfold nm3
  by_cases e : y = Str.ofString "world"
  · rw [if_pos e, e, a]
  · rw [if_neg e]
    by_cases e : y = Str.ofString "holding"
    · rw [if_pos e, e, b]
    · rw [if_neg e]
      by_cases e : y = Str.ofString "turned"
      · rw [if_pos e, e, c]
      · rw [if_neg e]
theorem fr_nm3 {ws Dh Dt L : Addr} {g h : Heap} {m : Str → Option Value} (F : Fr g L h m) (a : m (Str.ofString "world") = some (.ref ws)) (b : m (Str.ofString "holding") = some (.ref Dh)) (c : m (Str.ofString "turned") = some (.ref Dt)) : Fr g L h (nm3 ws Dh Dt m) := Fr.congr F (nm3_self a b c)
section
local macro_rules | `(tactic| walk_at "call ref") => `(tactic| ((with_reducible show wpAny _ _ (call (Value.ref 248) _) _ _ _); refine Halt.mk ?_)) -- here
local macro_rules | `(tactic| walk_at "call ref") => `(tactic| ((with_reducible show wpAny _ _ (call (Value.ref 265) _) _ _ _); refine Halt.mk ?_)) -- here
local macro_rules | `(tactic| walk_at "call ref") => `(tactic| ((with_reducible show wpAny _ _ (call (Value.ref 260) _) _ _ _); refine Halt.mk ?_)) -- here
local macro_rules | `(tactic| walk_at "CompSrc") => `(tactic| refine Halt.mk ?_) -- here
local macro_rules | `(tactic| walk_at "CompEnd") => `(tactic| refine Halt.mk ?_) -- here
local macro_rules | `(tactic| walk_at "compareOp NotIn ref ref") => `(tactic| refine Halt.mk ?_) -- here
theorem how_turn (w : World) {mean : ExcName → Option Value} {mg mb : Str → Option Value} {g : Heap} (KX : (HK w.params).In g) (T : Top VW LL mean mg mb g)
    (L f : Addr) (cdv : Value) (s : Shared) (m : Str → Option Value) (ws bag sl su as Dh Dt a0 a1 a2 b0 b1 b2 : Addr) (oP oB oS oA o0 o1 o2 d0 d1 d2 : Obj) (vP : Option Value) (wl vh vt : List Value) (ns nsW nsX : List Int) (c2 n1 n2 kh kt : Nat) (spot : Int) (t1 : Tok) (S B : Int → Int → Int) (tl : List (Addr × Obj))
    (mB : (L + 1, oB) ∈ tl) (dB : oB.data = .cell (some (.ref bag))) (mS : (L + 1 + 1, oS) ∈ tl) (dS : oS.data = .cell (some (.ref su))) (mA : (L + 1 + 1 + 1, oA) ∈ tl) (dA : oA.data = .cell (some (.ref as)))
    (msl : (sl, listOf wl.toArray 0) ∈ tl) (wI : IntsAre wl ns) (hl2 : Box (ns.length < 2 ^ 62))
    (msu : (su, listOf #[.ref a0, .ref a1, .ref a2] n1) ∈ tl) (e0 : (a0, o0) ∈ tl) (e1 : (a1, o1) ∈ tl) (e2 : (a2, o2) ∈ tl) (i0 : IsT3 o0 (S 0 0) (S 0 1) (S 0 2)) (i1 : IsT3 o1 (S 1 0) (S 1 1) (S 1 2)) (i2 : IsT3 o2 (S 2 0) (S 2 1) (S 2 2)) (pS : Pms S)
    (mas : (as, listOf #[.ref b0, .ref b1, .ref b2] n2) ∈ tl) (e3 : (b0, d0) ∈ tl) (e4 : (b1, d1) ∈ tl) (e5 : (b2, d2) ∈ tl) (j0 : IsT3 d0 (B 0 0) (B 0 1) (B 0 2)) (j1 : IsT3 d1 (B 1 0) (B 1 1) (B 1 2)) (j2 : IsT3 d2 (B 2 0) (B 2 1) (B 2 2)) (pB : Pms B)
    (mh : (Dh, listOf vh.toArray kh) ∈ tl) (IH : Items tl vh (ksTo S B 6).length (fun i => od ((ksTo S B 6).getD i 0 : Int))) (mt : (Dt, listOf vt.toArray kt) ∈ tl) (IT : Items tl vt (ksTo S B 6).length (fun i => td ((ksTo S B 6).getD i 0)))
    (GR : ∀ h L, News g L h tl → GetAt w g h ws (Str.ofString "W%") nsW ∧ GetAt w g h ws (Str.ofString "X%") nsX) (lW : Laid S 9 nsW) (lX : Laid B 9 nsX)
    (nbl : ∀ q ∈ tl, q.1 ≠ bag) (ncl : ∀ q ∈ tl, q.1 ≠ L + 1 + 1 + 1 + 1) (nbc : @Ne Nat (L + 1 + 1 + 1 + 1) bag)
    (N : News g L s.heap ((bag, listOf #[.ref sl, .int spot t1] c2) :: (L + 1 + 1 + 1 + 1, oP) :: tl)) (dP : oP.data = .cell vP) (h0 : 0 ≤ spot)
    (how : Int) (th : Tok) (hh0 : 0 ≤ how) (hh1 : how ≤ 2) (h1 : spot < 800) (F : Fr g L s.heap (fun y => if y = Str.ofString "how" then some (.int how th) else nm3 ws Dh Dt m y)) (Q : Flow → Shared → Prop)
    (hQ : ∀ h' tk m' spot' t' oP' vP', (spot ≤ spot' ∧ spot' ≤ spot + 10) → Fr g L h' (nm3 ws Dh Dt m') → News g L h' ((bag, listOf #[.ref sl, .int spot' t'] c2) :: (L + 1 + 1 + 1 + 1, oP') :: tl) → oP'.data = .cell vP' → Q .next { s with heap := h', toks := tk }) :
    wpAny (model pw w) (lawA L f cdv) (execs howBody (lawEnv L f cdv)) Q (fun _ _ => False) s := by
  unfold lawA lawEnv
  conv in howBody => whnf
  conv in (occs := *) lawScope => all_goals whnf
  have nb4 : ∀ q ∈ (L + 1 + 1 + 1 + 1, oP) :: tl, q.1 ≠ bag := List.forall_mem_cons.mpr ⟨nbc, nbl⟩
  k_steps
  rename News _ _ _ _ => N9
  rename Fr _ _ _ _ => F9
  refine Halt.of (paired_line F9 N9 KX T (by k_updF) (by k_mem) (nbl _ msl) wI hl2.out h0 (by omega) hh0 hh1 (GR _ L (News.sub N9 (fun q hq => .tail _ (.tail _ hq)))).1 (GR _ L (News.sub N9 (fun q hq => .tail _ (.tail _ hq)))).2 lW lX pS pB (by exact rfl) (by exact Nat.le_of_ble_eq_true rfl) (by exact Nat.le_of_ble_eq_true rfl) ?_)
  intro D hdx h9 tk9 x y z asks ta tb tc td spot' t3 c3 c4 sp G lt FA NA
  dsimp only at NA
  clear F9 N9 nb4
  have cD : @Ne Nat D (L + 1 + 1 + 1 + 1) := news_ne NA (.head _) (.tail _ (.tail _ (.tail _ (.head _)))) (fun e => notTup_cell dP _ _ e.symm)
  have cH : @Ne Nat hdx (L + 1 + 1 + 1 + 1) := news_ne NA (.tail _ (.head _)) (.tail _ (.tail _ (.tail _ (.head _)))) (fun e => by have := congrArg Obj.data e; rw [dP] at this; cases this)
  have bD : @Ne Nat D bag := Nat.ne_of_gt lt.2
  have bH : @Ne Nat hdx bag := Nat.ne_of_gt lt.1
  have cB : @Ne Nat bag (L + 1 + 1 + 1 + 1) := Ne.symm nbc
  k_steps
  rename_i _ _ _ Dx hx Fx Nx lx
  refine Halt.of (notin_items (p := fun j => pk j x y z) (ox := ({ cls := .type "tuple", data := .seq #[.int x ta, .int y tb, .int z tc] } : Obj)) Nx (.tail _ (.tail _ (.tail _ (.tail _ (.tail _ mt))))) (IT.mono (fun q hq => .tail _ (.tail _ (.tail _ (.tail _ (.tail _ hq)))))) (.head _) ⟨_, _, _, _, rfl⟩ (by exact Nat.le_of_ble_eq_true rfl) G.inT ?_)
  k_steps
  refine Halt.of (turned_new_L Fx Nx KX T (x := x) (y := y) (z := z) (t1 := ta) (t2 := tb) (t3 := tc) (n := c3) (by k_mem) G.pm (by exact rfl) (by exact Nat.le_of_ble_eq_true rfl) (by exact Nat.le_of_ble_eq_true rfl) ?_)
  intro D2 h2 tk2 u1 u2 u3 n9 F2 N2 far2
  have c2' : @Ne Nat D2 (L + 1 + 1 + 1 + 1) := Ne.symm (far2 _ (.tail _ (.tail _ (.tail _ (.tail _ (.head _))))) (Ne.symm cH))
  have b2' : @Ne Nat D2 bag := Ne.symm (far2 _ (.tail _ (.tail _ (.tail _ (.head _)))) (Ne.symm bH))
  have cx : @Ne Nat Dx (L + 1 + 1 + 1 + 1) := Nat.ne_of_gt lx.2.2.2.1
  clear Fx Nx far2
  k_steps
  rename_i h3 oP' F3 N3 dP'
  obtain ⟨oD, iD, eD⟩ : ∃ oD, IsT3 oD (rk x y z 0) (rk x y z 1) (rk x y z 2) ∧ oD = ({ cls := .type "tuple", data := .seq #[.int (rk x y z 0) u1, .int (rk x y z 1) u2, .int (rk x y z 2) u3] n9 } : Obj) := ⟨_, ⟨_, _, _, _, rfl⟩, rfl⟩
  rw [← eD] at N3
  clear eD
  have N4 : News g L h3 ((D2, oD) :: (hdx, listOf #[.int x ta, .int y tb, .int z tc] c3) :: (bag, listOf #[.ref sl, .int spot' t3] c2) :: (L + 1 + 1 + 1 + 1, oP') :: tl) :=
    News.sub N3 (List.forall_mem_cons.mpr ⟨.head _, List.forall_mem_cons.mpr ⟨.tail _ (.tail _ (.tail _ (.head _))), List.forall_mem_cons.mpr ⟨.tail _ (.tail _ (.tail _ (.tail _ (.head _)))), List.forall_mem_cons.mpr ⟨.tail _ (.tail _ (.tail _ (.tail _ (.tail _ (.head _))))), fun q hq => .tail _ (.tail _ (.tail _ (.tail _ (.tail _ (.tail _ hq)))))⟩⟩⟩⟩)
  clear N3
  refine Halt.of (best_line (p := fun w => rk x y z w) F3 N4 KX T (.head _) (.inl iD) (.tail _ (.tail _ (.tail _ (.tail _ mh)))) (IH.mono (fun q hq => .tail _ (.tail _ (.tail _ (.tail _ hq))))) ks_len G.len (fun i hi => od_pmf (ks_at hi).1) (.tail _ (.tail _ (.tail _ (.tail _ msu)))) (.tail _ (.tail _ (.tail _ (.tail _ e0)))) (.tail _ (.tail _ (.tail _ (.tail _ e1)))) (.tail _ (.tail _ (.tail _ (.tail _ e2)))) i0 i1 i2 pS (pm_rk G.pm) G.hBest (by exact rfl) (by exact Nat.le_of_ble_eq_true rfl) (by exact Nat.le_of_ble_eq_true rfl) ?_)
  intro h4 tk4 F4 N5
  clear F3 N4
  k_steps
  refine Halt.of (worst_line (p := fun j => pk j x y z) F4 N5 KX T (.tail _ (.head _)) (.inr ⟨ta, tb, tc, c3, rfl⟩) (.tail _ (.tail _ (.tail _ (.tail _ mt)))) (IT.mono (fun q hq => .tail _ (.tail _ (.tail _ (.tail _ hq))))) ks_len G.len (fun i hi => td_pm hi) (.tail _ (.tail _ (.tail _ (.tail _ mas)))) (.tail _ (.tail _ (.tail _ (.tail _ e3)))) (.tail _ (.tail _ (.tail _ (.tail _ e4)))) (.tail _ (.tail _ (.tail _ (.tail _ e5)))) j0 j1 j2 pB G.pm (G.hWorst pS) (by exact rfl) (by exact Nat.le_of_ble_eq_true rfl) (by exact Nat.le_of_ble_eq_true rfl) ?_)
  intro h5 tk5 F5 N6
  clear F4 N5
  k_steps
  rename IsRange _ _ _ _ _ _ _ _ => rZ
  rename News _ _ _ _ => NZ
  rename Fr _ _ _ _ => FZ
  have pmr := pm_rk G.pm
  refine Halt.of (LCg.CompSrc.range (n := 3) (by rfl) FZ NZ rZ (by first | decide | rfl) (by first | rfl | decide) (by first | size_fits | exact Nat.le_of_ble_eq_true rfl) ?_)
  intro g'
  clear rZ FZ NZ
  refine comp_ind0 (J := fun i ys => IntsAre ys ((List.range i).map (fun k : Nat => R S (k : Int) (rk x y z (k : Int))))) trivial .nil ?spA ?fiA
  case spA =>
    rintro i ys v I oI C oC D m₂ h tk E' hi j ⟨t9, rfl⟩ hc hx F9 N9 off ne
    k_steps
    rename News _ _ _ _ => N8
    have e8 : rk (S (0 + (i : Int)) 0) (S (0 + (i : Int)) 1) (S (0 + (i : Int)) 2) (pk (0 + (i : Int)) (rk x y z 0) (rk x y z 1) (rk x y z 2)) = R S (i : Int) (rk x y z (i : Int)) := by
      rw [Int.zero_add, pk_fn (f := fun v => rk x y z v) (by omega) (by omega)]
    rw [e8]
    refine Halt.of (LCg.CompEnd.intro (by assumption) N8 ((D2, oD) :: (hdx, listOf #[.int x ta, .int y tb, .int z tc] c3) :: (bag, listOf #[.ref sl, .int spot' t3] c2) :: (L + 1 + 1 + 1 + 1, oP') :: tl) (fun q hq => .tail _ hq) off trivial ⟨fun _ h => h, ?_⟩)
    have m8 := map_range_succ (fun k : Nat => R S (k : Int) (rk x y z (k : Int))) i
    rw [← m8]
    exact ints_snoc j
  case fiA =>
    have es : ((List.range 3).map fun k : Nat => R S (k : Int) (rk x y z (k : Int))).sum = R S 0 (rk x y z 0) + (R S 1 (rk x y z 1) + (R S 2 (rk x y z 2) + 0)) := rfl
    have ea := G.asks
    intro ys hI
    k_steps
    · rename asks ≠ _ => nea
      exact absurd (by rw [es]; omega) nea
    · rename News _ _ _ _ => N8
      rename Fr _ _ _ _ => F8
      exact hQ _ _ _ spot' t3 oP' _ sp (fr_nm3 F8 (by rfl) (by rfl) (by rfl)) (News.sub N8 (List.forall_mem_cons.mpr ⟨.tail _ (.tail _ (.tail _ (.head _))), List.forall_mem_cons.mpr ⟨.tail _ (.tail _ (.tail _ (.tail _ (.head _)))), fun q hq => .tail _ (.tail _ (.tail _ (.tail _ (.tail _ hq))))⟩⟩)) dP'
theorem Good.lenH {S B : Int → Int → Int} {x y z asks : Int} (G : Good B S x y z asks) : 0 < (ksTo S B 6).length := by
  obtain ⟨i, hi, _⟩ := G.inH
  omega
theorem end_walk (w : World) {mean : ExcName → Option Value} {mg mb : Str → Option Value} {g : Heap} (KX : (HK w.params).In g) (T : Top VW LL mean mg mb g)
    (L f : Addr) (cdv : Value) (s : Shared) (m : Str → Option Value) (ws bag sl su as Dh Dt a0 a1 a2 b0 b1 b2 : Addr) (oP oB oS oA o0 o1 o2 d0 d1 d2 : Obj) (vP : Option Value) (wl vh vt : List Value) (ns nsW nsX : List Int) (c2 n1 n2 kh kt : Nat) (spot : Int) (t1 : Tok) (S B : Int → Int → Int) (tl : List (Addr × Obj))
    (mB : (L + 1, oB) ∈ tl) (dB : oB.data = .cell (some (.ref bag))) (mS : (L + 1 + 1, oS) ∈ tl) (dS : oS.data = .cell (some (.ref su))) (mA : (L + 1 + 1 + 1, oA) ∈ tl) (dA : oA.data = .cell (some (.ref as)))
    (msl : (sl, listOf wl.toArray 0) ∈ tl) (wI : IntsAre wl ns) (hl2 : Box (ns.length < 2 ^ 62))
    (msu : (su, listOf #[.ref a0, .ref a1, .ref a2] n1) ∈ tl) (e0 : (a0, o0) ∈ tl) (e1 : (a1, o1) ∈ tl) (e2 : (a2, o2) ∈ tl) (i0 : IsT3 o0 (S 0 0) (S 0 1) (S 0 2)) (i1 : IsT3 o1 (S 1 0) (S 1 1) (S 1 2)) (i2 : IsT3 o2 (S 2 0) (S 2 1) (S 2 2)) (pS : Pms S)
    (mas : (as, listOf #[.ref b0, .ref b1, .ref b2] n2) ∈ tl) (e3 : (b0, d0) ∈ tl) (e4 : (b1, d1) ∈ tl) (e5 : (b2, d2) ∈ tl) (j0 : IsT3 d0 (B 0 0) (B 0 1) (B 0 2)) (j1 : IsT3 d1 (B 1 0) (B 1 1) (B 1 2)) (j2 : IsT3 d2 (B 2 0) (B 2 1) (B 2 2)) (pB : Pms B)
    (mh : (Dh, listOf vh.toArray kh) ∈ tl) (IH : Items tl vh (ksTo S B 6).length (fun i => od ((ksTo S B 6).getD i 0 : Int))) (mt : (Dt, listOf vt.toArray kt) ∈ tl) (IT : Items tl vt (ksTo S B 6).length (fun i => td ((ksTo S B 6).getD i 0)))
    (GR : ∀ h L, News g L h tl → GetAt w g h ws (Str.ofString "W%") nsW ∧ GetAt w g h ws (Str.ofString "X%") nsX) (lW : Laid S 9 nsW) (lX : Laid B 9 nsX)
    (nbl : ∀ q ∈ tl, q.1 ≠ bag) (ncl : ∀ q ∈ tl, q.1 ≠ L + 1 + 1 + 1 + 1) (nbc : @Ne Nat (L + 1 + 1 + 1 + 1) bag)
    (N : News g L s.heap ((bag, listOf #[.ref sl, .int spot t1] c2) :: (L + 1 + 1 + 1 + 1, oP) :: tl)) (dP : oP.data = .cell vP) (h0 : 0 ≤ spot)
    (h1 : spot < 900) (F : Fr g L s.heap (nm3 ws Dh Dt m)) (Q : Flow → Shared → Prop)
    (hQ : ∀ h' tk, Ext g h' → Q (.ret (.bool true)) { s with heap := h', toks := tk }) :
    wpAny (model pw w) (lawA L f cdv) (execs (lawBody.drop 7) (lawEnv L f cdv)) Q (fun _ _ => False) s := by
  unfold lawA lawEnv
  conv in (List.drop _ _) => whnf
  conv in (occs := *) lawScope => all_goals whnf
  have nb4 : ∀ q ∈ (L + 1 + 1 + 1 + 1, oP) :: tl, q.1 ≠ bag := List.forall_mem_cons.mpr ⟨nbc, nbl⟩
  k_steps
  rename News _ _ _ _ => N9
  rename Fr _ _ _ _ => F9
  refine Halt.of (paired_line F9 N9 KX T (by k_updF) (by k_mem) (nbl _ msl) wI hl2.out h0 (by omega) (by decide) (by decide) (GR _ L (News.sub N9 (fun q hq => .tail _ (.tail _ hq)))).2 (GR _ L (News.sub N9 (fun q hq => .tail _ (.tail _ hq)))).1 lX lW pB pS (by exact rfl) (by exact Nat.le_of_ble_eq_true rfl) (by exact Nat.le_of_ble_eq_true rfl) ?_)
  intro D hdx h9 tk9 x y z asks ta tb tc td spot' t3 c3 c4 sp G lt FA NA
  dsimp only at NA
  clear F9 N9 nb4
  have cD : @Ne Nat D (L + 1 + 1 + 1 + 1) := news_ne NA (.head _) (.tail _ (.tail _ (.tail _ (.head _)))) (fun e => notTup_cell dP _ _ e.symm)
  have cH : @Ne Nat hdx (L + 1 + 1 + 1 + 1) := news_ne NA (.tail _ (.head _)) (.tail _ (.tail _ (.tail _ (.head _)))) (fun e => by have := congrArg Obj.data e; rw [dP] at this; cases this)
  have bD : @Ne Nat D bag := Nat.ne_of_gt lt.2
  have bH : @Ne Nat hdx bag := Nat.ne_of_gt lt.1
  have cB : @Ne Nat bag (L + 1 + 1 + 1 + 1) := Ne.symm nbc
  k_steps
  rename_i _ _ _ Dx hx Fx Nx lx
  refine Halt.of (notin_items (p := fun j => pk j x y z) (ox := ({ cls := .type "tuple", data := .seq #[.int x ta, .int y tb, .int z tc] } : Obj)) Nx (.tail _ (.tail _ (.tail _ (.tail _ (.tail _ mh))))) (IH.mono (fun q hq => .tail _ (.tail _ (.tail _ (.tail _ (.tail _ hq)))))) (.head _) ⟨_, _, _, _, rfl⟩ (by exact Nat.le_of_ble_eq_true rfl) G.inH ?_)
  k_steps
  refine Halt.of (turned_new_L Fx Nx KX T (x := x) (y := y) (z := z) (t1 := ta) (t2 := tb) (t3 := tc) (n := c3) (by k_mem) G.pm (by exact rfl) (by exact Nat.le_of_ble_eq_true rfl) (by exact Nat.le_of_ble_eq_true rfl) ?_)
  intro D2 h2 tk2 u1 u2 u3 n9 F2 N2 far2
  have c2' : @Ne Nat D2 (L + 1 + 1 + 1 + 1) := Ne.symm (far2 _ (.tail _ (.tail _ (.tail _ (.tail _ (.head _))))) (Ne.symm cH))
  have b2' : @Ne Nat D2 bag := Ne.symm (far2 _ (.tail _ (.tail _ (.tail _ (.head _)))) (Ne.symm bH))
  have cx : @Ne Nat Dx (L + 1 + 1 + 1 + 1) := Nat.ne_of_gt lx.2.2.2.1
  clear Fx Nx far2
  k_steps
  rename_i h3 oP' F3 N3 dP'
  obtain ⟨oD, iD, eD⟩ : ∃ oD, IsT3 oD (rk x y z 0) (rk x y z 1) (rk x y z 2) ∧ oD = ({ cls := .type "tuple", data := .seq #[.int (rk x y z 0) u1, .int (rk x y z 1) u2, .int (rk x y z 2) u3] n9 } : Obj) := ⟨_, ⟨_, _, _, _, rfl⟩, rfl⟩
  rw [← eD] at N3
  clear eD
  have N4 : News g L h3 ((D2, oD) :: (hdx, listOf #[.int x ta, .int y tb, .int z tc] c3) :: (bag, listOf #[.ref sl, .int spot' t3] c2) :: (L + 1 + 1 + 1 + 1, oP') :: tl) :=
    News.sub N3 (List.forall_mem_cons.mpr ⟨.head _, List.forall_mem_cons.mpr ⟨.tail _ (.tail _ (.tail _ (.head _))), List.forall_mem_cons.mpr ⟨.tail _ (.tail _ (.tail _ (.tail _ (.head _)))), List.forall_mem_cons.mpr ⟨.tail _ (.tail _ (.tail _ (.tail _ (.tail _ (.head _))))), fun q hq => .tail _ (.tail _ (.tail _ (.tail _ (.tail _ (.tail _ hq)))))⟩⟩⟩⟩)
  clear N3
  refine Halt.of (worst_line (p := fun j => pk j x y z) F3 N4 KX T (.tail _ (.head _)) (.inr ⟨ta, tb, tc, c3, rfl⟩) (.tail _ (.tail _ (.tail _ (.tail _ mh)))) (IH.mono (fun q hq => .tail _ (.tail _ (.tail _ (.tail _ hq))))) ks_len G.lenH (fun i hi => od_pmf (ks_at hi).1) (.tail _ (.tail _ (.tail _ (.tail _ msu)))) (.tail _ (.tail _ (.tail _ (.tail _ e0)))) (.tail _ (.tail _ (.tail _ (.tail _ e1)))) (.tail _ (.tail _ (.tail _ (.tail _ e2)))) i0 i1 i2 pS G.pm (G.hWorstH pB) (by exact rfl) (by exact Nat.le_of_ble_eq_true rfl) (by exact Nat.le_of_ble_eq_true rfl) ?_)
  intro h4 tk4 F4 N5
  clear F3 N4
  k_steps
  refine Halt.of (best_line (p := fun w => rk x y z w) F4 N5 KX T (.head _) (.inl iD) (.tail _ (.tail _ (.tail _ (.tail _ mt)))) (IT.mono (fun q hq => .tail _ (.tail _ (.tail _ (.tail _ hq))))) ks_len G.lenH (fun i hi => td_pm hi) (.tail _ (.tail _ (.tail _ (.tail _ mas)))) (.tail _ (.tail _ (.tail _ (.tail _ e3)))) (.tail _ (.tail _ (.tail _ (.tail _ e4)))) (.tail _ (.tail _ (.tail _ (.tail _ e5)))) j0 j1 j2 pB (pm_rk G.pm) G.hBestT (by exact rfl) (by exact Nat.le_of_ble_eq_true rfl) (by exact Nat.le_of_ble_eq_true rfl) ?_)
  intro h5 tk5 F5 N6
  clear F4 N5
  k_steps
  exact hQ _ _ F5.keep
end
section
local macro_rules | `(tactic| walk_at "execs cons") => `(tactic| refine Halt.mk ?_) -- here
theorem how_loop (w : World) {mean : ExcName → Option Value} {mg mb : Str → Option Value} {g : Heap} (KX : (HK w.params).In g) (T : Top VW LL mean mg mb g)
    (L f : Addr) (cdv : Value) (s : Shared) (m : Str → Option Value) (ws bag sl su as Dh Dt a0 a1 a2 b0 b1 b2 : Addr) (oP oB oS oA o0 o1 o2 d0 d1 d2 : Obj) (vP : Option Value) (wl vh vt : List Value) (ns nsW nsX : List Int) (c2 n1 n2 kh kt : Nat) (spot : Int) (t1 : Tok) (S B : Int → Int → Int) (tl : List (Addr × Obj))
    (mB : (L + 1, oB) ∈ tl) (dB : oB.data = .cell (some (.ref bag))) (mS : (L + 1 + 1, oS) ∈ tl) (dS : oS.data = .cell (some (.ref su))) (mA : (L + 1 + 1 + 1, oA) ∈ tl) (dA : oA.data = .cell (some (.ref as)))
    (msl : (sl, listOf wl.toArray 0) ∈ tl) (wI : IntsAre wl ns) (hl2 : Box (ns.length < 2 ^ 62))
    (msu : (su, listOf #[.ref a0, .ref a1, .ref a2] n1) ∈ tl) (e0 : (a0, o0) ∈ tl) (e1 : (a1, o1) ∈ tl) (e2 : (a2, o2) ∈ tl) (i0 : IsT3 o0 (S 0 0) (S 0 1) (S 0 2)) (i1 : IsT3 o1 (S 1 0) (S 1 1) (S 1 2)) (i2 : IsT3 o2 (S 2 0) (S 2 1) (S 2 2)) (pS : Pms S)
    (mas : (as, listOf #[.ref b0, .ref b1, .ref b2] n2) ∈ tl) (e3 : (b0, d0) ∈ tl) (e4 : (b1, d1) ∈ tl) (e5 : (b2, d2) ∈ tl) (j0 : IsT3 d0 (B 0 0) (B 0 1) (B 0 2)) (j1 : IsT3 d1 (B 1 0) (B 1 1) (B 1 2)) (j2 : IsT3 d2 (B 2 0) (B 2 1) (B 2 2)) (pB : Pms B)
    (mh : (Dh, listOf vh.toArray kh) ∈ tl) (IH : Items tl vh (ksTo S B 6).length (fun i => od ((ksTo S B 6).getD i 0 : Int))) (mt : (Dt, listOf vt.toArray kt) ∈ tl) (IT : Items tl vt (ksTo S B 6).length (fun i => td ((ksTo S B 6).getD i 0)))
    (GR : ∀ h L, News g L h tl → GetAt w g h ws (Str.ofString "W%") nsW ∧ GetAt w g h ws (Str.ofString "X%") nsX) (lW : Laid S 9 nsW) (lX : Laid B 9 nsX)
    (nbl : ∀ q ∈ tl, q.1 ≠ bag) (ncl : ∀ q ∈ tl, q.1 ≠ L + 1 + 1 + 1 + 1) (nbc : @Ne Nat (L + 1 + 1 + 1 + 1) bag)
    (N : News g L s.heap ((bag, listOf #[.ref sl, .int spot t1] c2) :: (L + 1 + 1 + 1 + 1, oP) :: tl)) (dP : oP.data = .cell vP) (h0 : 0 ≤ spot)
    (h1 : spot < 700) (F : Fr g L s.heap (nm3 ws Dh Dt m)) (Q : Flow → Shared → Prop)
    (hQ : ∀ h' tk m' spot' t' oP' vP', (spot ≤ spot' ∧ spot' ≤ spot + 30) → Fr g L h' (nm3 ws Dh Dt m') → News g L h' ((bag, listOf #[.ref sl, .int spot' t'] c2) :: (L + 1 + 1 + 1 + 1, oP') :: tl) → oP'.data = .cell vP' → Q .next { s with heap := h', toks := tk }) :
    wpAny (model pw w) (lawA L f cdv) (exec (lawSt 6) (lawEnv L f cdv)) Q (fun _ _ => False) s := by
  unfold lawA lawEnv
  conv in lawSt 6 => whnf
  conv in (occs := *) lawScope => all_goals whnf
  k_steps
  rename_i D3 h3 F3 N3 lD3
  refine iter_tupTurns (vs := [.int 0 s.toks, .int 1 (s.toks + 1), .int 2 (s.toks + 1 + 1)]) (by rfl) F3 N3 (.head _) (by rfl) (by rfl) ?_
  clear F3
  intro I1 lI
  k_lt lI
  have nD : @Ne Nat D3 bag := Nat.ne_of_gt lD3.1
  have nI : @Ne Nat I1 bag := Nat.ne_of_gt lI.2.1
  have cD : @Ne Nat D3 (L + 1 + 1 + 1 + 1) := Nat.ne_of_gt lD3.2.1
  have cI : @Ne Nat I1 (L + 1 + 1 + 1 + 1) := Nat.ne_of_gt lI.2.2.1
  have nbl3 : ∀ o q, q ∈ (I1, o) :: (D3, ({ cls := .type "tuple", data := .seq #[.int 0 s.toks, .int 1 (s.toks + 1), .int 2 (s.toks + 1 + 1)] } : Obj)) :: tl → q.1 ≠ bag := fun o => List.forall_mem_cons.mpr ⟨nI, List.forall_mem_cons.mpr ⟨nD, nbl⟩⟩
  have ncl3 : ∀ o q, q ∈ (I1, o) :: (D3, ({ cls := .type "tuple", data := .seq #[.int 0 s.toks, .int 1 (s.toks + 1), .int 2 (s.toks + 1 + 1)] } : Obj)) :: tl → q.1 ≠ L + 1 + 1 + 1 + 1 := fun o => List.forall_mem_cons.mpr ⟨cI, List.forall_mem_cons.mpr ⟨cD, ncl⟩⟩
  have offI : ∀ o1 o2, ∀ p ∈ (bag, o1) :: (L + 1 + 1 + 1 + 1, o2) :: (D3, ({ cls := .type "tuple", data := .seq #[.int 0 s.toks, .int 1 (s.toks + 1), .int 2 (s.toks + 1 + 1)] } : Obj)) :: tl, @Ne Nat p.1 I1 := fun o1 o2 => List.forall_mem_cons.mpr ⟨Ne.symm nI, List.forall_mem_cons.mpr ⟨Ne.symm cI, List.forall_mem_cons.mpr ⟨Nat.ne_of_lt lI.1, fun q hq => Nat.ne_of_lt (allLt_mem lI.2.2.2 q hq)⟩⟩⟩
  k_steps
  rename_i hq0 tkq0 Fq0 oI0 hcI0 Nq0 h90 F90 N90
  clear Fq0 Nq0
  have M90 : News g L h90 ((bag, listOf #[.ref sl, .int spot t1] c2) :: (L + 1 + 1 + 1 + 1, oP) :: (I1, oI0) :: (D3, ({ cls := .type "tuple", data := .seq #[.int 0 s.toks, .int 1 (s.toks + 1), .int 2 (s.toks + 1 + 1)] } : Obj)) :: tl) := News.sub N90 (List.forall_mem_cons.mpr ⟨by k_mem, List.forall_mem_cons.mpr ⟨by k_mem, List.forall_mem_cons.mpr ⟨by k_mem, List.forall_mem_cons.mpr ⟨by k_mem, fun q hq => .tail _ (.tail _ (.tail _ (.tail _ hq)))⟩⟩⟩⟩)
  clear N90
  refine Halt.of (how_turn w KX T L f cdv _ m ws bag sl su as Dh Dt a0 a1 a2 b0 b1 b2 oP oB oS oA o0 o1 o2 d0 d1 d2 vP wl vh vt ns nsW nsX c2 n1 n2 kh kt spot t1 S B ((I1, oI0) :: (D3, ({ cls := .type "tuple", data := .seq #[.int 0 s.toks, .int 1 (s.toks + 1), .int 2 (s.toks + 1 + 1)] } : Obj)) :: tl) (.tail _ (.tail _ mB)) dB (.tail _ (.tail _ mS)) dS (.tail _ (.tail _ mA)) dA (.tail _ (.tail _ msl)) wI hl2 (.tail _ (.tail _ msu)) (.tail _ (.tail _ e0)) (.tail _ (.tail _ e1)) (.tail _ (.tail _ e2)) i0 i1 i2 pS (.tail _ (.tail _ mas)) (.tail _ (.tail _ e3)) (.tail _ (.tail _ e4)) (.tail _ (.tail _ e5)) j0 j1 j2 pB (.tail _ (.tail _ mh)) (IH.mono (fun q hq => .tail _ (.tail _ hq))) (.tail _ (.tail _ mt)) (IT.mono (fun q hq => .tail _ (.tail _ hq))) (fun h L N => GR h L (News.sub N (fun q hq => .tail _ (.tail _ hq)))) lW lX (nbl3 _) (ncl3 _) nbc M90 dP h0 0 _ (by decide) (by decide) (by omega) F90 _ ?_)
  clear F90 M90
  intro hF0 tkF0 m0' sp0 t0' oP0 vP0 bb0 FF0 NF0 dP0
  k_steps
  refine ⟨hF0, tkF0, _, (bag, listOf #[.ref sl, .int sp0 t0'] c2) :: (L + 1 + 1 + 1 + 1, oP0) :: (D3, ({ cls := .type "tuple", data := .seq #[.int 0 s.toks, .int 1 (s.toks + 1), .int 2 (s.toks + 1 + 1)] } : Obj)) :: tl, rfl, FF0, News.sub NF0 ?s0, fun p hp q hq => by rw [List.mem_singleton.mp hq]; exact offI _ _ p hp, ⟨by k_subL, ?_⟩⟩
  case s0 =>
    exact List.forall_mem_cons.mpr ⟨by k_mem, List.forall_mem_cons.mpr ⟨by k_mem, List.forall_mem_cons.mpr ⟨by k_mem, List.forall_mem_cons.mpr ⟨by k_mem, fun q hq => .tail _ (.tail _ (.tail _ (.tail _ hq)))⟩⟩⟩⟩
  clear NF0 FF0
  k_steps
  rename_i hq1 tkq1 Fq1 oI1 hcI1 Nq1 h91 F91 N91
  clear Fq1 Nq1
  have M91 : News g L h91 ((bag, listOf #[.ref sl, .int sp0 t0'] c2) :: (L + 1 + 1 + 1 + 1, oP0) :: (I1, oI1) :: (D3, ({ cls := .type "tuple", data := .seq #[.int 0 s.toks, .int 1 (s.toks + 1), .int 2 (s.toks + 1 + 1)] } : Obj)) :: tl) := News.sub N91 (List.forall_mem_cons.mpr ⟨by k_mem, List.forall_mem_cons.mpr ⟨by k_mem, List.forall_mem_cons.mpr ⟨by k_mem, List.forall_mem_cons.mpr ⟨by k_mem, fun q hq => .tail _ (.tail _ (.tail _ (.tail _ hq)))⟩⟩⟩⟩)
  clear N91
  refine Halt.of (how_turn w KX T L f cdv _ m0' ws bag sl su as Dh Dt a0 a1 a2 b0 b1 b2 oP0 oB oS oA o0 o1 o2 d0 d1 d2 vP0 wl vh vt ns nsW nsX c2 n1 n2 kh kt sp0 t0' S B ((I1, oI1) :: (D3, ({ cls := .type "tuple", data := .seq #[.int 0 s.toks, .int 1 (s.toks + 1), .int 2 (s.toks + 1 + 1)] } : Obj)) :: tl) (.tail _ (.tail _ mB)) dB (.tail _ (.tail _ mS)) dS (.tail _ (.tail _ mA)) dA (.tail _ (.tail _ msl)) wI hl2 (.tail _ (.tail _ msu)) (.tail _ (.tail _ e0)) (.tail _ (.tail _ e1)) (.tail _ (.tail _ e2)) i0 i1 i2 pS (.tail _ (.tail _ mas)) (.tail _ (.tail _ e3)) (.tail _ (.tail _ e4)) (.tail _ (.tail _ e5)) j0 j1 j2 pB (.tail _ (.tail _ mh)) (IH.mono (fun q hq => .tail _ (.tail _ hq))) (.tail _ (.tail _ mt)) (IT.mono (fun q hq => .tail _ (.tail _ hq))) (fun h L N => GR h L (News.sub N (fun q hq => .tail _ (.tail _ hq)))) lW lX (nbl3 _) (ncl3 _) nbc M91 dP0 (by omega) 1 _ (by decide) (by decide) (by omega) F91 _ ?_)
  clear F91 M91
  intro hF1 tkF1 m1' sp1 t1' oP1 vP1 bb1 FF1 NF1 dP1
  k_steps
  refine ⟨hF1, tkF1, _, (bag, listOf #[.ref sl, .int sp1 t1'] c2) :: (L + 1 + 1 + 1 + 1, oP1) :: (D3, ({ cls := .type "tuple", data := .seq #[.int 0 s.toks, .int 1 (s.toks + 1), .int 2 (s.toks + 1 + 1)] } : Obj)) :: tl, rfl, FF1, News.sub NF1 ?s1, fun p hp q hq => by rw [List.mem_singleton.mp hq]; exact offI _ _ p hp, ⟨by k_subL, ?_⟩⟩
  case s1 =>
    exact List.forall_mem_cons.mpr ⟨by k_mem, List.forall_mem_cons.mpr ⟨by k_mem, List.forall_mem_cons.mpr ⟨by k_mem, List.forall_mem_cons.mpr ⟨by k_mem, fun q hq => .tail _ (.tail _ (.tail _ (.tail _ hq)))⟩⟩⟩⟩
  clear NF1 FF1
  k_steps
  rename_i hq2 tkq2 Fq2 oI2 hcI2 Nq2 h92 F92 N92
  clear Fq2 Nq2
  have M92 : News g L h92 ((bag, listOf #[.ref sl, .int sp1 t1'] c2) :: (L + 1 + 1 + 1 + 1, oP1) :: (I1, oI2) :: (D3, ({ cls := .type "tuple", data := .seq #[.int 0 s.toks, .int 1 (s.toks + 1), .int 2 (s.toks + 1 + 1)] } : Obj)) :: tl) := News.sub N92 (List.forall_mem_cons.mpr ⟨by k_mem, List.forall_mem_cons.mpr ⟨by k_mem, List.forall_mem_cons.mpr ⟨by k_mem, List.forall_mem_cons.mpr ⟨by k_mem, fun q hq => .tail _ (.tail _ (.tail _ (.tail _ hq)))⟩⟩⟩⟩)
  clear N92
  refine Halt.of (how_turn w KX T L f cdv _ m1' ws bag sl su as Dh Dt a0 a1 a2 b0 b1 b2 oP1 oB oS oA o0 o1 o2 d0 d1 d2 vP1 wl vh vt ns nsW nsX c2 n1 n2 kh kt sp1 t1' S B ((I1, oI2) :: (D3, ({ cls := .type "tuple", data := .seq #[.int 0 s.toks, .int 1 (s.toks + 1), .int 2 (s.toks + 1 + 1)] } : Obj)) :: tl) (.tail _ (.tail _ mB)) dB (.tail _ (.tail _ mS)) dS (.tail _ (.tail _ mA)) dA (.tail _ (.tail _ msl)) wI hl2 (.tail _ (.tail _ msu)) (.tail _ (.tail _ e0)) (.tail _ (.tail _ e1)) (.tail _ (.tail _ e2)) i0 i1 i2 pS (.tail _ (.tail _ mas)) (.tail _ (.tail _ e3)) (.tail _ (.tail _ e4)) (.tail _ (.tail _ e5)) j0 j1 j2 pB (.tail _ (.tail _ mh)) (IH.mono (fun q hq => .tail _ (.tail _ hq))) (.tail _ (.tail _ mt)) (IT.mono (fun q hq => .tail _ (.tail _ hq))) (fun h L N => GR h L (News.sub N (fun q hq => .tail _ (.tail _ hq)))) lW lX (nbl3 _) (ncl3 _) nbc M92 dP1 (by omega) 2 _ (by decide) (by decide) (by omega) F92 _ ?_)
  clear F92 M92
  intro hF2 tkF2 m2' sp2 t2' oP2 vP2 bb2 FF2 NF2 dP2
  k_steps
  refine ⟨hF2, tkF2, _, (bag, listOf #[.ref sl, .int sp2 t2'] c2) :: (L + 1 + 1 + 1 + 1, oP2) :: (D3, ({ cls := .type "tuple", data := .seq #[.int 0 s.toks, .int 1 (s.toks + 1), .int 2 (s.toks + 1 + 1)] } : Obj)) :: tl, rfl, FF2, News.sub NF2 ?s2, fun p hp q hq => by rw [List.mem_singleton.mp hq]; exact offI _ _ p hp, ⟨by k_subL, ?_⟩⟩
  case s2 =>
    exact List.forall_mem_cons.mpr ⟨by k_mem, List.forall_mem_cons.mpr ⟨by k_mem, List.forall_mem_cons.mpr ⟨by k_mem, List.forall_mem_cons.mpr ⟨by k_mem, fun q hq => .tail _ (.tail _ (.tail _ (.tail _ hq)))⟩⟩⟩⟩
  clear NF2 FF2
  k_steps
  rename News _ _ _ _ => N8
  rename Fr _ _ _ _ => F8
  exact hQ _ _ _ sp2 t2' oP2 _ ⟨by omega, by omega⟩ F8 (News.sub N8 (List.forall_mem_cons.mpr ⟨.head _, List.forall_mem_cons.mpr ⟨.tail _ (.head _), fun q hq => .tail _ (.tail _ (.tail _ hq))⟩⟩)) dP2
end
section
local macro_rules | `(tactic| walk_at "exec Assign") => `(tactic| ((with_reducible show wpAny _ _ (exec (Stmt.Assign _ (Expr.ListComp _ _ _ _) _) _) _ _ _); refine Halt.mk ?_)) -- here
local macro_rules | `(tactic| walk_at "exec Assign cons ListComp") => `(tactic| refine Halt.mk ?_) -- here
local macro_rules | `(tactic| walk_at "exec For Tuple Tuple cons nil") => `(tactic| refine Halt.mk ?_) -- here
local macro_rules | `(tactic| walk_at "exec For Name Tuple cons nil") => `(tactic| refine Halt.mk ?_) -- here
theorem law_rest (w : World) {mean : ExcName → Option Value} {mg mb : Str → Option Value} {g : Heap} (KX : (HK w.params).In g) (T : Top VW LL mean mg mb g)
    (L f : Addr) (cdv : Value) (s : Shared) (m : Str → Option Value) (bag sl ws wd ar ki : Addr) (oP oA oS oB oar : Obj) (vP vA vS : Option Value) (wl : List Value) (ns : List Int) (es : List DictEntry) (c c2 : Nat) (t1 t2 t3 t4 t5 : Tok)
    (F : Fr g L s.heap m) (mw : m (Str.ofString "world") = some (.ref ws)) (N : News g L s.heap ((bag, listOf #[.ref sl, .int 0 t1] c2) :: (L + 1 + 1, oS) :: [(sl, listOf wl.toArray 0), (ws, instObj 216 wd), (wd, dictOf es c), (ar, oar), (L + 1 + 1 + 1 + 1, oP), (L + 1 + 1 + 1, oA), (L + 1, oB)]))
    (dP : oP.data = .cell vP) (dA : oA.data = .cell vA) (dS : oS.data = .cell vS) (dB : oB.data = .cell (some (.ref bag))) (wI : IntsAre wl ns) (hl2 : Box (ns.length < 2 ^ 62)) (lo : (ar == sysModules) = false) (har : Obj.IsDictOf (PySem.strKind pw w) oar [])
    (g1 : getL (Str.ofString "arrays") es = some (some (.ref ar))) (g2 : getL (Str.ofString "base") es = some (some (.int 0 t2))) (g3 : getL (Str.ofString "room") es = some (some (.int 2000 t3))) (g4 : getL (Str.ofString "kinds") es = some (some (.ref ki))) (g5 : getL (Str.ofString "bits") es = some (some (.int 16 t4))) (g6 : getL (Str.ofString "digits") es = some (some (.int 9 t5)))
    (ordr : @LT.lt Nat _ (L + 1 + 1 + 1 + 1) sl ∧ @LT.lt Nat _ sl bag ∧ @LT.lt Nat _ bag wd ∧ @LT.lt Nat _ wd ws ∧ @LT.lt Nat _ ws ar) (Q : Flow → Shared → Prop)
    (hQ : ∀ h' tk, Ext g h' → Q (.ret (.bool true)) { s with heap := h', toks := tk }) :
    wpAny (model pw w) (lawA L f cdv) (execs (lawBody.drop 1) (lawEnv L f cdv)) Q (fun _ _ => False) s := by
  unfold lawA lawEnv
  conv in (List.drop _ _) => whnf
  conv in (occs := *) lawScope => all_goals whnf
  have zBAG : Box (@Ne Nat (L + 1) (bag) ∧ @Ne Nat (L + 1 + 1) (bag) ∧ @Ne Nat (L + 1 + 1 + 1) (bag) ∧ @Ne Nat (L + 1 + 1 + 1 + 1) (bag) ∧ @Ne Nat (sl) (bag) ∧ @Ne Nat (wd) (bag) ∧ @Ne Nat (ws) (bag) ∧ @Ne Nat (ar) (bag)) := ⟨by omega⟩
  have zL2 : Box (@Ne Nat (L + 1) (L + 1 + 1) ∧ @Ne Nat (L + 1 + 1 + 1) (L + 1 + 1) ∧ @Ne Nat (L + 1 + 1 + 1 + 1) (L + 1 + 1) ∧ @Ne Nat (sl) (L + 1 + 1) ∧ @Ne Nat (bag) (L + 1 + 1) ∧ @Ne Nat (wd) (L + 1 + 1) ∧ @Ne Nat (ws) (L + 1 + 1) ∧ @Ne Nat (ar) (L + 1 + 1)) := ⟨by omega⟩
  have zL3 : Box (@Ne Nat (L + 1) (L + 1 + 1 + 1) ∧ @Ne Nat (L + 1 + 1) (L + 1 + 1 + 1) ∧ @Ne Nat (L + 1 + 1 + 1 + 1) (L + 1 + 1 + 1) ∧ @Ne Nat (sl) (L + 1 + 1 + 1) ∧ @Ne Nat (bag) (L + 1 + 1 + 1) ∧ @Ne Nat (wd) (L + 1 + 1 + 1) ∧ @Ne Nat (ws) (L + 1 + 1 + 1) ∧ @Ne Nat (ar) (L + 1 + 1 + 1)) := ⟨by omega⟩
  have zL4 : Box (@Ne Nat (L + 1) (L + 1 + 1 + 1 + 1) ∧ @Ne Nat (L + 1 + 1) (L + 1 + 1 + 1 + 1) ∧ @Ne Nat (L + 1 + 1 + 1) (L + 1 + 1 + 1 + 1) ∧ @Ne Nat (sl) (L + 1 + 1 + 1 + 1) ∧ @Ne Nat (bag) (L + 1 + 1 + 1 + 1) ∧ @Ne Nat (wd) (L + 1 + 1 + 1 + 1) ∧ @Ne Nat (ws) (L + 1 + 1 + 1 + 1) ∧ @Ne Nat (ar) (L + 1 + 1 + 1 + 1)) := ⟨by omega⟩
  have zAR : Box (@Ne Nat (L + 1) (ar) ∧ @Ne Nat (L + 1 + 1) (ar) ∧ @Ne Nat (L + 1 + 1 + 1) (ar) ∧ @Ne Nat (L + 1 + 1 + 1 + 1) (ar) ∧ @Ne Nat (sl) (ar) ∧ @Ne Nat (bag) (ar) ∧ @Ne Nat (wd) (ar) ∧ @Ne Nat (ws) (ar)) := ⟨by omega⟩
  k_steps
  refine Halt.of (suit_walk w KX T L f cdv _ m bag sl c2 0 t1 oS oB _ wl ns [(sl, listOf wl.toArray 0), (ws, instObj 216 wd), (wd, dictOf es c), (ar, oar), (L + 1 + 1 + 1 + 1, oP), (L + 1 + 1 + 1, oA), (L + 1, oB)] F N dS (List.forall_mem_cons.mpr ⟨zBAG.out.2.2.2.2.1, List.forall_mem_cons.mpr ⟨zBAG.out.2.2.2.2.2.2.1, List.forall_mem_cons.mpr ⟨zBAG.out.2.2.2.2.2.1, List.forall_mem_cons.mpr ⟨zBAG.out.2.2.2.2.2.2.2, List.forall_mem_cons.mpr ⟨zBAG.out.2.2.2.1, List.forall_mem_cons.mpr ⟨zBAG.out.2.2.1, List.forall_mem_cons.mpr ⟨zBAG.out.1, List.forall_mem_nil _⟩⟩⟩⟩⟩⟩⟩) zBAG.out.2.1 (List.forall_mem_cons.mpr ⟨zL2.out.2.2.2.1, List.forall_mem_cons.mpr ⟨zL2.out.2.2.2.2.2.2.1, List.forall_mem_cons.mpr ⟨zL2.out.2.2.2.2.2.1, List.forall_mem_cons.mpr ⟨zL2.out.2.2.2.2.2.2.2, List.forall_mem_cons.mpr ⟨zL2.out.2.2.1, List.forall_mem_cons.mpr ⟨zL2.out.2.1, List.forall_mem_cons.mpr ⟨zL2.out.1, List.forall_mem_nil _⟩⟩⟩⟩⟩⟩⟩) (by k_mem) dB (by k_mem) wI hl2 (by decide) (by decide) _ _ ?_)
  clear F N
  intro hA tkA u1 oS1 D1 n1 a0 a1 a2 o0 o1 o2 FA NA dS1 ⟨k0, k00, k01, i0⟩ ⟨k1, k10, k11, i1⟩ ⟨k2, k20, k21, i2⟩ bA cA tA
  have bA := Box.mk bA
  have cA := Box.mk cA
  simp only [List.forall_mem_cons] at tA
  obtain ⟨q1, q2, q3, q4, q5, q6, q7, _⟩ := tA
  have q4 : Box (@Ne Nat ar D1 ∧ @Ne Nat ar a0 ∧ @Ne Nat ar a1 ∧ @Ne Nat ar a2) := ⟨q4⟩
  have q5 : Box (@Ne Nat (L + 1 + 1 + 1 + 1) D1 ∧ @Ne Nat (L + 1 + 1 + 1 + 1) a0 ∧ @Ne Nat (L + 1 + 1 + 1 + 1) a1 ∧ @Ne Nat (L + 1 + 1 + 1 + 1) a2) := ⟨q5⟩
  have q6 : Box (@Ne Nat (L + 1 + 1 + 1) D1 ∧ @Ne Nat (L + 1 + 1 + 1) a0 ∧ @Ne Nat (L + 1 + 1 + 1) a1 ∧ @Ne Nat (L + 1 + 1 + 1) a2) := ⟨q6⟩
  k_steps
  have N1 : News g L hA ((bag, listOf #[.ref sl, .int (0 + 3) u1] c2) :: (L + 1 + 1 + 1, oA) :: [(L + 1 + 1, oS1), (D1, listOf #[.ref a0, .ref a1, .ref a2] n1), (a0, o0), (a1, o1), (a2, o2), (sl, listOf wl.toArray 0), (ws, instObj 216 wd), (wd, dictOf es c), (ar, oar), (L + 1 + 1 + 1 + 1, oP), (L + 1, oB)]) := News.sub NA (List.forall_mem_cons.mpr ⟨by k_mem, List.forall_mem_cons.mpr ⟨by k_mem, List.forall_mem_cons.mpr ⟨by k_mem, List.forall_mem_cons.mpr ⟨by k_mem, List.forall_mem_cons.mpr ⟨by k_mem, List.forall_mem_cons.mpr ⟨by k_mem, List.forall_mem_cons.mpr ⟨by k_mem, List.forall_mem_cons.mpr ⟨by k_mem, List.forall_mem_cons.mpr ⟨by k_mem, List.forall_mem_cons.mpr ⟨by k_mem, List.forall_mem_cons.mpr ⟨by k_mem, List.forall_mem_cons.mpr ⟨by k_mem, List.forall_mem_cons.mpr ⟨by k_mem, List.forall_mem_nil _⟩⟩⟩⟩⟩⟩⟩⟩⟩⟩⟩⟩⟩)
  clear NA
  refine Halt.of (ask_walk w KX T L f cdv _ m bag sl c2 (0 + 3) u1 oA oB _ wl ns [(L + 1 + 1, oS1), (D1, listOf #[.ref a0, .ref a1, .ref a2] n1), (a0, o0), (a1, o1), (a2, o2), (sl, listOf wl.toArray 0), (ws, instObj 216 wd), (wd, dictOf es c), (ar, oar), (L + 1 + 1 + 1 + 1, oP), (L + 1, oB)] FA N1 dA (List.forall_mem_cons.mpr ⟨zBAG.out.2.1, List.forall_mem_cons.mpr ⟨bA.out.1, List.forall_mem_cons.mpr ⟨bA.out.2.1, List.forall_mem_cons.mpr ⟨bA.out.2.2.1, List.forall_mem_cons.mpr ⟨bA.out.2.2.2, List.forall_mem_cons.mpr ⟨zBAG.out.2.2.2.2.1, List.forall_mem_cons.mpr ⟨zBAG.out.2.2.2.2.2.2.1, List.forall_mem_cons.mpr ⟨zBAG.out.2.2.2.2.2.1, List.forall_mem_cons.mpr ⟨zBAG.out.2.2.2.2.2.2.2, List.forall_mem_cons.mpr ⟨zBAG.out.2.2.2.1, List.forall_mem_cons.mpr ⟨zBAG.out.1, List.forall_mem_nil _⟩⟩⟩⟩⟩⟩⟩⟩⟩⟩⟩) zBAG.out.2.2.1 (List.forall_mem_cons.mpr ⟨zL3.out.2.1, List.forall_mem_cons.mpr ⟨(Ne.symm q6.out.1), List.forall_mem_cons.mpr ⟨(Ne.symm q6.out.2.1), List.forall_mem_cons.mpr ⟨(Ne.symm q6.out.2.2.1), List.forall_mem_cons.mpr ⟨(Ne.symm q6.out.2.2.2), List.forall_mem_cons.mpr ⟨zL3.out.2.2.2.1, List.forall_mem_cons.mpr ⟨zL3.out.2.2.2.2.2.2.1, List.forall_mem_cons.mpr ⟨zL3.out.2.2.2.2.2.1, List.forall_mem_cons.mpr ⟨zL3.out.2.2.2.2.2.2.2, List.forall_mem_cons.mpr ⟨zL3.out.2.2.1, List.forall_mem_cons.mpr ⟨zL3.out.1, List.forall_mem_nil _⟩⟩⟩⟩⟩⟩⟩⟩⟩⟩⟩) (by k_mem) dB (by k_mem) wI hl2 (by decide) (by decide) _ _ ?_)
  clear FA N1
  intro hB tkB u2 oA1 D2 n2 b0 b1 b2 d0 d1 d2 FB NB dA1 ⟨k3, k30, k31, j0⟩ ⟨k4, k40, k41, j1⟩ ⟨k5, k50, k51, j2⟩ bB cB tB
  have bB := Box.mk bB
  have cB := Box.mk cB
  simp only [List.forall_mem_cons] at tB
  obtain ⟨r1, r2, r3, r4, r5, r6, r7, r8, r9, r10, r11, _⟩ := tB
  have r9 : Box (@Ne Nat ar D2 ∧ @Ne Nat ar b0 ∧ @Ne Nat ar b1 ∧ @Ne Nat ar b2) := ⟨r9⟩
  have r10 : Box (@Ne Nat (L + 1 + 1 + 1 + 1) D2 ∧ @Ne Nat (L + 1 + 1 + 1 + 1) b0 ∧ @Ne Nat (L + 1 + 1 + 1 + 1) b1 ∧ @Ne Nat (L + 1 + 1 + 1 + 1) b2) := ⟨r10⟩
  k_steps
  have N2 : News g L hB ((ar, oar) :: [(bag, listOf #[.ref sl, .int (0 + 3 + 3) u2] c2), (L + 1 + 1 + 1 + 1, oP), (L + 1 + 1 + 1, oA1), (D2, listOf #[.ref b0, .ref b1, .ref b2] n2), (b0, d0), (b1, d1), (b2, d2), (L + 1 + 1, oS1), (D1, listOf #[.ref a0, .ref a1, .ref a2] n1), (a0, o0), (a1, o1), (a2, o2), (sl, listOf wl.toArray 0), (ws, instObj 216 wd), (wd, dictOf es c), (L + 1, oB)]) := News.sub NB (List.forall_mem_cons.mpr ⟨by k_mem, List.forall_mem_cons.mpr ⟨by k_mem, List.forall_mem_cons.mpr ⟨by k_mem, List.forall_mem_cons.mpr ⟨by k_mem, List.forall_mem_cons.mpr ⟨by k_mem, List.forall_mem_cons.mpr ⟨by k_mem, List.forall_mem_cons.mpr ⟨by k_mem, List.forall_mem_cons.mpr ⟨by k_mem, List.forall_mem_cons.mpr ⟨by k_mem, List.forall_mem_cons.mpr ⟨by k_mem, List.forall_mem_cons.mpr ⟨by k_mem, List.forall_mem_cons.mpr ⟨by k_mem, List.forall_mem_cons.mpr ⟨by k_mem, List.forall_mem_cons.mpr ⟨by k_mem, List.forall_mem_cons.mpr ⟨by k_mem, List.forall_mem_cons.mpr ⟨by k_mem, List.forall_mem_cons.mpr ⟨by k_mem, List.forall_mem_nil _⟩⟩⟩⟩⟩⟩⟩⟩⟩⟩⟩⟩⟩⟩⟩⟩⟩)
  clear NB
  have pS : Pms (fun i j => od (pk i k0 k1 k2) j) := fun i h0 h1 => by
    rcases three h0 h1 with rfl | rfl | rfl
    · exact od_pm k00 k01
    · exact od_pm k10 k11
    · exact od_pm k20 k21
  have pB : Pms (fun i j => od (pk i k3 k4 k5) j) := fun i h0 h1 => by
    rcases three h0 h1 with rfl | rfl | rfl
    · exact od_pm k30 k31
    · exact od_pm k40 k41
    · exact od_pm k50 k51
  obtain ⟨S, eS⟩ : ∃ S : Int → Int → Int, S = fun i j => od (pk i k0 k1 k2) j := ⟨_, rfl⟩
  obtain ⟨B, eB⟩ : ∃ B : Int → Int → Int, B = fun i j => od (pk i k3 k4 k5) j := ⟨_, rfl⟩
  rw [← eS] at pS
  rw [← eB] at pB
  have i0 : IsT3 o0 (S 0 0) (S 0 1) (S 0 2) := by rw [eS]; exact i0
  have i1 : IsT3 o1 (S 1 0) (S 1 1) (S 1 2) := by rw [eS]; exact i1
  have i2 : IsT3 o2 (S 2 0) (S 2 1) (S 2 2) := by rw [eS]; exact i2
  have j0 : IsT3 d0 (B 0 0) (B 0 1) (B 0 2) := by rw [eB]; exact j0
  have j1 : IsT3 d1 (B 1 0) (B 1 1) (B 1 2) := by rw [eB]; exact j1
  have j2 : IsT3 d2 (B 2 0) (B 2 1) (B 2 2) := by rw [eB]; exact j2
  clear eS eB
  refine Halt.of (fill_walk w KX T L f cdv _ m ws wd ar ki D1 D2 a0 a1 a2 b0 b1 b2 oar oS1 oA1 o0 o1 o2 d0 d1 d2 es c n1 n2 t2 t3 t4 t5 S B [(bag, listOf #[.ref sl, .int (0 + 3 + 3) u2] c2), (L + 1 + 1 + 1 + 1, oP), (L + 1 + 1 + 1, oA1), (D2, listOf #[.ref b0, .ref b1, .ref b2] n2), (b0, d0), (b1, d1), (b2, d2), (L + 1 + 1, oS1), (D1, listOf #[.ref a0, .ref a1, .ref a2] n1), (a0, o0), (a1, o1), (a2, o2), (sl, listOf wl.toArray 0), (ws, instObj 216 wd), (wd, dictOf es c), (L + 1, oB)] FB mw N2 (List.forall_mem_cons.mpr ⟨zAR.out.2.2.2.2.2.1, List.forall_mem_cons.mpr ⟨zAR.out.2.2.2.1, List.forall_mem_cons.mpr ⟨zAR.out.2.2.1, List.forall_mem_cons.mpr ⟨(Ne.symm r9.out.1), List.forall_mem_cons.mpr ⟨(Ne.symm r9.out.2.1), List.forall_mem_cons.mpr ⟨(Ne.symm r9.out.2.2.1), List.forall_mem_cons.mpr ⟨(Ne.symm r9.out.2.2.2), List.forall_mem_cons.mpr ⟨zAR.out.2.1, List.forall_mem_cons.mpr ⟨(Ne.symm q4.out.1), List.forall_mem_cons.mpr ⟨(Ne.symm q4.out.2.1), List.forall_mem_cons.mpr ⟨(Ne.symm q4.out.2.2.1), List.forall_mem_cons.mpr ⟨(Ne.symm q4.out.2.2.2), List.forall_mem_cons.mpr ⟨zAR.out.2.2.2.2.1, List.forall_mem_cons.mpr ⟨zAR.out.2.2.2.2.2.2.2, List.forall_mem_cons.mpr ⟨zAR.out.2.2.2.2.2.2.1, List.forall_mem_cons.mpr ⟨zAR.out.1, List.forall_mem_nil _⟩⟩⟩⟩⟩⟩⟩⟩⟩⟩⟩⟩⟩⟩⟩⟩) har lo (by k_mem) (by k_mem) g1 g2 g3 g4 g5 g6 (by k_mem) dS1 (by k_mem) dA1
    (by k_mem) (by k_mem) (by k_mem) (by k_mem) i0 i1 i2 pS (by k_mem) (by k_mem) (by k_mem) (by k_mem) j0 j1 j2 pB _ ?_)
  clear FB N2
  intro hC tkC mC new nsW nsX FC mwC NC farC GR lW lX
  k_steps
  refine Halt.of (hold_walk w KX T L f cdv _ mC D1 D2 a0 a1 a2 b0 b1 b2 oS1 oA1 o0 o1 o2 d0 d1 d2 n1 n2 S B _ FC NC (List.mem_append_right _ (by k_mem)) dS1 (List.mem_append_right _ (by k_mem)) dA1 (List.mem_append_right _ (by k_mem)) (List.mem_append_right _ (by k_mem)) (List.mem_append_right _ (by k_mem)) (List.mem_append_right _ (by k_mem)) i0 i1 i2 pS (List.mem_append_right _ (by k_mem)) (List.mem_append_right _ (by k_mem)) (List.mem_append_right _ (by k_mem)) (List.mem_append_right _ (by k_mem)) j0 j1 j2 pB _ ?_)
  intro hD tkD Dh nh new2 ad FD ND farD mDh hits
  clear FC NC
  k_steps
  refine Halt.of (turn_walk w KX T L f cdv _ mC Dh nh (ksTo S B 6) ad _ FD ND (List.mem_append_left _ mDh) ks_len (fun k hk => ?_) _ ?_)
  · have k6 := (ksTo_mem.mp hk).1
    obtain ⟨o, mo, io⟩ := hits k k6
    exact ⟨k6, o, List.mem_append_left _ mo, io⟩
  clear FD ND
  intro hE tkE Dt nt tn FE NE farT ofT lnT hitT
  have inn : ∀ q ∈ [(bag, listOf #[.ref sl, .int (0 + 3 + 3) u2] c2), (L + 1 + 1 + 1 + 1, oP), (L + 1 + 1 + 1, oA1), (D2, listOf #[.ref b0, .ref b1, .ref b2] n2), (b0, d0), (b1, d1), (b2, d2), (L + 1 + 1, oS1), (D1, listOf #[.ref a0, .ref a1, .ref a2] n1), (a0, o0), (a1, o1), (a2, o2), (sl, listOf wl.toArray 0), (ws, instObj 216 wd), (wd, dictOf es c), (L + 1, oB)], q ∈ new2 ++ (new ++ [(bag, listOf #[.ref sl, .int (0 + 3 + 3) u2] c2), (L + 1 + 1 + 1 + 1, oP), (L + 1 + 1 + 1, oA1), (D2, listOf #[.ref b0, .ref b1, .ref b2] n2), (b0, d0), (b1, d1), (b2, d2), (L + 1 + 1, oS1), (D1, listOf #[.ref a0, .ref a1, .ref a2] n1), (a0, o0), (a1, o1), (a2, o2), (sl, listOf wl.toArray 0), (ws, instObj 216 wd), (wd, dictOf es c), (L + 1, oB)]) := fun q hq => List.mem_append_right _ (List.mem_append_right _ hq)
  have subR : ∀ q ∈ [(L + 1 + 1 + 1, oA1), (D2, listOf #[.ref b0, .ref b1, .ref b2] n2), (b0, d0), (b1, d1), (b2, d2), (L + 1 + 1, oS1), (D1, listOf #[.ref a0, .ref a1, .ref a2] n1), (a0, o0), (a1, o1), (a2, o2), (sl, listOf wl.toArray 0), (ws, instObj 216 wd), (wd, dictOf es c), (L + 1, oB)], q ∈ [(bag, listOf #[.ref sl, .int (0 + 3 + 3) u2] c2), (L + 1 + 1 + 1 + 1, oP), (L + 1 + 1 + 1, oA1), (D2, listOf #[.ref b0, .ref b1, .ref b2] n2), (b0, d0), (b1, d1), (b2, d2), (L + 1 + 1, oS1), (D1, listOf #[.ref a0, .ref a1, .ref a2] n1), (a0, o0), (a1, o1), (a2, o2), (sl, listOf wl.toArray 0), (ws, instObj 216 wd), (wd, dictOf es c), (L + 1, oB)] := fun q hq => .tail _ (.tail _ hq)
  obtain ⟨TR, eTR⟩ : ∃ TR, TR = [(L + 1 + 1 + 1, oA1), (D2, listOf #[.ref b0, .ref b1, .ref b2] n2), (b0, d0), (b1, d1), (b2, d2), (L + 1 + 1, oS1), (D1, listOf #[.ref a0, .ref a1, .ref a2] n1), (a0, o0), (a1, o1), (a2, o2), (sl, listOf wl.toArray 0), (ws, instObj 216 wd), (wd, dictOf es c), (L + 1, oB)] := ⟨_, rfl⟩
  have mR : ∀ q ∈ TR, q ∈ [(bag, listOf #[.ref sl, .int (0 + 3 + 3) u2] c2), (L + 1 + 1 + 1 + 1, oP), (L + 1 + 1 + 1, oA1), (D2, listOf #[.ref b0, .ref b1, .ref b2] n2), (b0, d0), (b1, d1), (b2, d2), (L + 1 + 1, oS1), (D1, listOf #[.ref a0, .ref a1, .ref a2] n1), (a0, o0), (a1, o1), (a2, o2), (sl, listOf wl.toArray 0), (ws, instObj 216 wd), (wd, dictOf es c), (L + 1, oB)] := fun q hq => subR q (eTR ▸ hq)
  have N5 : News g L hE ((bag, listOf #[.ref sl, .int (0 + 3 + 3) u2] c2) :: (L + 1 + 1 + 1 + 1, oP) :: (Dt, listOf (tn.map (fun q => Value.ref q.1)).toArray nt) :: (tn ++ (new2 ++ (new ++ TR)))) := News.sub NE (List.forall_mem_cons.mpr ⟨.tail _ (List.mem_append_right _ (inn _ (.head _))), List.forall_mem_cons.mpr ⟨.tail _ (List.mem_append_right _ (inn _ (.tail _ (.head _)))), List.forall_mem_cons.mpr ⟨.head _, fun q hq => .tail _ (by
    rcases List.mem_append.mp hq with hq | hq
    · exact List.mem_append_left _ hq
    · rcases List.mem_append.mp hq with hq | hq
      · exact List.mem_append_right _ (List.mem_append_left _ hq)
      · rcases List.mem_append.mp hq with hq | hq
        · exact List.mem_append_right _ (List.mem_append_right _ (List.mem_append_left _ hq))
        · exact List.mem_append_right _ (inn _ (mR q hq)))⟩⟩⟩)
  have nbR : ∀ q ∈ TR, q.1 ≠ bag := by
    rw [eTR]
    exact (List.forall_mem_cons.mpr ⟨zBAG.out.2.2.1, List.forall_mem_cons.mpr ⟨bB.out.1, List.forall_mem_cons.mpr ⟨bB.out.2.1, List.forall_mem_cons.mpr ⟨bB.out.2.2.1, List.forall_mem_cons.mpr ⟨bB.out.2.2.2, List.forall_mem_cons.mpr ⟨zBAG.out.2.1, List.forall_mem_cons.mpr ⟨bA.out.1, List.forall_mem_cons.mpr ⟨bA.out.2.1, List.forall_mem_cons.mpr ⟨bA.out.2.2.1, List.forall_mem_cons.mpr ⟨bA.out.2.2.2, List.forall_mem_cons.mpr ⟨zBAG.out.2.2.2.2.1, List.forall_mem_cons.mpr ⟨zBAG.out.2.2.2.2.2.2.1, List.forall_mem_cons.mpr ⟨zBAG.out.2.2.2.2.2.1, List.forall_mem_cons.mpr ⟨zBAG.out.1, List.forall_mem_nil _⟩⟩⟩⟩⟩⟩⟩⟩⟩⟩⟩⟩⟩⟩)
  have ncR : ∀ q ∈ TR, q.1 ≠ L + 1 + 1 + 1 + 1 := by
    rw [eTR]
    exact (List.forall_mem_cons.mpr ⟨zL4.out.2.2.1, List.forall_mem_cons.mpr ⟨(Ne.symm r10.out.1), List.forall_mem_cons.mpr ⟨(Ne.symm r10.out.2.1), List.forall_mem_cons.mpr ⟨(Ne.symm r10.out.2.2.1), List.forall_mem_cons.mpr ⟨(Ne.symm r10.out.2.2.2), List.forall_mem_cons.mpr ⟨zL4.out.2.1, List.forall_mem_cons.mpr ⟨(Ne.symm q5.out.1), List.forall_mem_cons.mpr ⟨(Ne.symm q5.out.2.1), List.forall_mem_cons.mpr ⟨(Ne.symm q5.out.2.2.1), List.forall_mem_cons.mpr ⟨(Ne.symm q5.out.2.2.2), List.forall_mem_cons.mpr ⟨zL4.out.2.2.2.1, List.forall_mem_cons.mpr ⟨zL4.out.2.2.2.2.2.2.1, List.forall_mem_cons.mpr ⟨zL4.out.2.2.2.2.2.1, List.forall_mem_cons.mpr ⟨zL4.out.1, List.forall_mem_nil _⟩⟩⟩⟩⟩⟩⟩⟩⟩⟩⟩⟩⟩⟩)
  have off : ∀ (a : Addr) (o : Obj), (a, o) ∈ [(bag, listOf #[.ref sl, .int (0 + 3 + 3) u2] c2), (L + 1 + 1 + 1 + 1, oP), (L + 1 + 1 + 1, oA1), (D2, listOf #[.ref b0, .ref b1, .ref b2] n2), (b0, d0), (b1, d1), (b2, d2), (L + 1 + 1, oS1), (D1, listOf #[.ref a0, .ref a1, .ref a2] n1), (a0, o0), (a1, o1), (a2, o2), (sl, listOf wl.toArray 0), (ws, instObj 216 wd), (wd, dictOf es c), (L + 1, oB)] → NotTup o → (∀ q ∈ TR, q.1 ≠ a) → ∀ q ∈ (Dt, listOf (tn.map (fun q => Value.ref q.1)).toArray nt) :: (tn ++ (new2 ++ (new ++ TR))), q.1 ≠ a := fun a o ma na nR => List.forall_mem_cons.mpr ⟨Ne.symm (ofT _ (inn _ ma)), fun q hq => by
    rcases List.mem_append.mp hq with hq | hq
    · exact Ne.symm (farT q hq _ (inn _ ma) na)
    · rcases List.mem_append.mp hq with hq | hq
      · exact Ne.symm (farD q hq _ (List.mem_append_right _ ma))
      · rcases List.mem_append.mp hq with hq | hq
        · exact Ne.symm (farC q hq _ ma)
        · exact nR q hq⟩
  have nbl := off _ _ (.head _) notTup_list nbR
  have ncl := off _ _ (.tail _ (.head _)) (notTup_cell dP) ncR
  have upR : ∀ q ∈ TR, q ∈ (Dt, listOf (tn.map (fun q => Value.ref q.1)).toArray nt) :: (tn ++ (new2 ++ (new ++ TR))) := fun q hq => .tail _ (List.mem_append_right _ (List.mem_append_right _ (List.mem_append_right _ hq)))
  have upn : ∀ q ∈ new, q ∈ (Dt, listOf (tn.map (fun q => Value.ref q.1)).toArray nt) :: (tn ++ (new2 ++ (new ++ TR))) := fun q hq => .tail _ (List.mem_append_right _ (List.mem_append_right _ (List.mem_append_left _ hq)))
  have up2 : ∀ q ∈ new2, q ∈ (Dt, listOf (tn.map (fun q => Value.ref q.1)).toArray nt) :: (tn ++ (new2 ++ (new ++ TR))) := fun q hq => .tail _ (List.mem_append_right _ (List.mem_append_left _ hq))
  have upt : ∀ q ∈ tn, q ∈ (Dt, listOf (tn.map (fun q => Value.ref q.1)).toArray nt) :: (tn ++ (new2 ++ (new ++ TR))) := fun q hq => .tail _ (List.mem_append_left _ hq)
  have mDt : (Dt, listOf (tn.map (fun q => Value.ref q.1)).toArray nt) ∈ (Dt, listOf (tn.map (fun q => Value.ref q.1)).toArray nt) :: (tn ++ (new2 ++ (new ++ TR))) := .head _
  have GR' : ∀ h L, News g L h ((Dt, listOf (tn.map (fun q => Value.ref q.1)).toArray nt) :: (tn ++ (new2 ++ (new ++ TR)))) → GetAt w g h ws (Str.ofString "W%") nsW ∧ GetAt w g h ws (Str.ofString "X%") nsX := fun h L N => GR h L _ upn (upR _ (by rw [eTR]; k_mem)) (upR _ (by rw [eTR]; k_mem)) N
  have IH : Items ((Dt, listOf (tn.map (fun q => Value.ref q.1)).toArray nt) :: (tn ++ (new2 ++ (new ++ TR)))) ((ksTo S B 6).map (fun k => Value.ref (ad k))) (ksTo S B 6).length (fun i => od ((ksTo S B 6).getD i 0 : Int)) := by
    refine ⟨by simp, fun i v e => ?_⟩
    rw [List.getElem?_map, Option.map_eq_some_iff] at e
    obtain ⟨k, hk, rfl⟩ := e
    obtain ⟨o, mo, io⟩ := hits k (ksTo_mem.mp (List.mem_of_getElem? hk)).1
    have ek : (ksTo S B 6).getD i 0 = k := by rw [List.getD_eq_getElem?_getD, hk]; rfl
    refine ⟨ad k, o, rfl, up2 _ mo, ?_⟩
    dsimp only
    rw [ek]
    exact io
  have IT : Items ((Dt, listOf (tn.map (fun q => Value.ref q.1)).toArray nt) :: (tn ++ (new2 ++ (new ++ TR)))) (tn.map (fun q => Value.ref q.1)) (ksTo S B 6).length (fun i => td ((ksTo S B 6).getD i 0)) := by
    refine ⟨by simp [lnT], fun i v e => ?_⟩
    rw [List.getElem?_map, Option.map_eq_some_iff] at e
    obtain ⟨q, hq, rfl⟩ := e
    obtain ⟨k, hk, io⟩ := hitT i q hq
    have ek : (ksTo S B 6).getD i 0 = k := by rw [List.getD_eq_getElem?_getD, hk]; rfl
    refine ⟨q.1, q.2, rfl, upt _ (List.mem_of_getElem? hq), ?_⟩
    dsimp only
    rw [ek]
    exact io
  have mh := up2 _ mDh
  obtain ⟨tl5, e5⟩ : ∃ tl5, tl5 = (Dt, listOf (tn.map (fun q => Value.ref q.1)).toArray nt) :: (tn ++ (new2 ++ (new ++ TR))) := ⟨_, rfl⟩
  rw [← e5] at N5 nbl ncl upR IH IT mh mDt GR'
  have w1 := upR (L + 1, oB) (by rw [eTR]; k_mem)
  have w2 := upR (L + 1 + 1, oS1) (by rw [eTR]; k_mem)
  have w3 := upR (L + 1 + 1 + 1, oA1) (by rw [eTR]; k_mem)
  have w4 := upR (sl, listOf wl.toArray 0) (by rw [eTR]; k_mem)
  have w5 := upR (D1, listOf #[.ref a0, .ref a1, .ref a2] n1) (by rw [eTR]; k_mem)
  have w6 := upR (a0, o0) (by rw [eTR]; k_mem)
  have w7 := upR (a1, o1) (by rw [eTR]; k_mem)
  have w8 := upR (a2, o2) (by rw [eTR]; k_mem)
  have w9 := upR (D2, listOf #[.ref b0, .ref b1, .ref b2] n2) (by rw [eTR]; k_mem)
  have w10 := upR (b0, d0) (by rw [eTR]; k_mem)
  have w11 := upR (b1, d1) (by rw [eTR]; k_mem)
  have w12 := upR (b2, d2) (by rw [eTR]; k_mem)
  have nbc : @Ne Nat (L + 1 + 1 + 1 + 1) bag := zBAG.out.2.2.2.1
  have FE' := fr_nm3 (ws := ws) (Dh := Dh) (Dt := Dt) FE (by exact mwC) (by rfl) (by rfl)
  clear NE inn subR mR nbR ncR off upn up2 upt farT ofT lnT hitT farD mDh hits farC GR upR eTR e5 FE
  k_steps
  refine Halt.of (how_loop w KX T L f cdv _ _ ws bag sl D1 D2 Dh Dt a0 a1 a2 b0 b1 b2 oP oB oS1 oA1 o0 o1 o2 d0 d1 d2 _ wl _ _ ns nsW nsX c2 n1 n2 nh nt _ _ S B tl5 w1 dB w2 dS1 w3 dA1 w4 wI hl2 w5 w6 w7 w8 i0 i1 i2 pS w9 w10 w11 w12 j0 j1 j2 pB mh IH mDt IT GR' lW lX nbl ncl nbc N5 dP (by decide) (by decide) FE' _ ?_)
  clear FE' N5
  intro hF tkF mF sp tF oPF vPF bF FF NF dPF
  have b1 := bF.1
  have b2 := bF.2
  refine end_walk w KX T L f cdv _ mF ws bag sl D1 D2 Dh Dt a0 a1 a2 _ _ _ oPF oB oS1 oA1 o0 o1 o2 d0 d1 d2 vPF wl _ _ ns nsW nsX c2 n1 n2 nh nt sp tF S B tl5 w1 dB w2 dS1 w3 dA1 w4 wI hl2 w5 w6 w7 w8 i0 i1 i2 pS w9 w10 w11 w12 j0 j1 j2 pB mh IH mDt IT GR' lW lX nbl ncl nbc NF dPF (by omega) (by omega) FF Q ?_
  intro hG tkG x
  exact hQ _ _ x
end
section
local macro_rules | `(tactic| walk_at "execs cons") => `(tactic| ((with_reducible show wpAny _ _ (execs (Stmt.Assign _ (Expr.ListComp _ _ _ _) _ :: _) _) _ _ _); refine Halt.mk ?_)) -- here
local macro_rules | `(tactic| walk_at "exec Assign cons ListComp") => `(tactic| refine Halt.mk ?_) -- here
local macro_rules | `(tactic| walk_at "call ref") => `(tactic| ((with_reducible show wpAny _ _ (call (Value.ref 216) _) _ _ _); refine Halt.mk ?_)) -- here
theorem law_walk (w : World) {mean : ExcName → Option Value} {mg mb : Str → Option Value} {hb : Heap} (KX : (HK w.params).In hb) (T : Top VW LL mean mg mb hb)
    (s : Shared) (xb : Ext hb s.heap) (sc : Addr) (vs : List Value) (ns : List Int) (hl : s.heap.IsList sc vs.toArray) (hi : IntsAre vs ns) (hlen : ns.length ≤ 63) (Q : Value → Shared → Prop)
    (hQ : ∀ h' tk, Ext s.heap h' → Q (.bool true) { s with heap := h', toks := tk }) :
    wpAny (model pw w) (Ar 400 1000) (call (.ref 270) [.ref sc]) Q (fun _ _ => False) s := by
  refine wpAny_call ?_
  have hm : Mu hb s.heap [] := fun q hq => nomatch hq
  refine' enterCM (binds := [(Str.ofString "script", .ref sc)]) _ ?KX ?T ?xb ?hm ?k6 ?k7 ?k8 ?k9 ?kB ?kD ?_ ?c2 ?c3 ?c4; (case KX => assumption); (case T => assumption); (case xb => assumption); (case hm => assumption); (case k6 => k_is); (case k7 => k_is); (case k8 => decide); (case k9 => exact BindsTo.of_eq rfl); (case kB => exact rfl); (case kD => decide +kernel); (case c2 => exact rfl); (case c3 => exact rfl); (case c4 => exact rfl)
  intro G L' h₁ tk cells hg KX' T' F' N' C' l1
  have hg' : G = s.heap := hg
  subst hg'
  clear l1
  k_cells C'
  rename_i oP oA oS oB0 dP dA dS dB0
  simp only [List.cons_append, List.nil_append, List.append_nil] at N'
  k_steps
  rename_i sl wl z1 wI z2 z3 z4 bag hA FA NA z5
  refine Halt.of (world_line FA NA KX' T' (by exact rfl) (by exact Nat.le_of_ble_eq_true rfl) (by exact Nat.le_of_ble_eq_true rfl) ?_)
  intro hB tkB ws wd es c ar ki oar t2 t3 t4 t5 FB NB lt1 or1 har lo g1 g2 g3 g4 g5 g6
  have lt2 : @LT.lt Nat _ bag wd := lt1 _ (.head _)
  clear FA NA lt1
  k_steps
  rename_i z6 z7 z8 z9 z10 oB dB hZ FZ NZ
  have ordr : @LT.lt Nat _ (L' + 1 + 1 + 1 + 1) sl ∧ @LT.lt Nat _ sl bag ∧ @LT.lt Nat _ bag wd ∧ @LT.lt Nat _ wd ws ∧ @LT.lt Nat _ ws ar := ⟨by omega, by omega, lt2, or1⟩
  have mw0 : ∃ m, Fr s.heap L' hZ m ∧ m (Str.ofString "world") = some (.ref ws) := ⟨_, FZ, by rfl⟩
  obtain ⟨mZ, FZ2, mw⟩ := mw0
  have hl2 : Box ((List.take 20 ns).length < 2 ^ 62) := ⟨by rw [List.length_take]; omega⟩
  refine Halt.of (law_rest w KX' T' L' 270 (.ref 269) _ mZ bag sl ws wd ar ki oP oA oS oB oar _ _ _ wl (List.take 20 ns) es c _ _ t2 t3 t4 t5 FZ2 mw (News.sub NZ (List.forall_mem_cons.mpr ⟨by k_mem, List.forall_mem_cons.mpr ⟨by k_mem, List.forall_mem_cons.mpr ⟨by k_mem, List.forall_mem_cons.mpr ⟨by k_mem, List.forall_mem_cons.mpr ⟨by k_mem, List.forall_mem_cons.mpr ⟨by k_mem, List.forall_mem_cons.mpr ⟨by k_mem, List.forall_mem_cons.mpr ⟨by k_mem, List.forall_mem_cons.mpr ⟨by k_mem, List.forall_mem_nil _⟩⟩⟩⟩⟩⟩⟩⟩⟩)) dP dA dS dB wI hl2 lo har g1 g2 g3 g4 g5 g6 ordr _ (fun h' tk x => hQ h' tk x))
end
theorem top : PySem.Challenge.rw_xm0035_01.Holds := by
  refine top_of ?_
  k_fill
  intro w s₀ s₁ mg mb G Y fa o pm cd doc dV kV ho hd hcd hD hmg hg args vals as hpre hlay hrd hwl hlo
  have KX := kIn_of Y
  refine Ground.open G ?_
  intro T B D TE TW
  have e := mg_of KX T.g (show nsIn (HK w.params) mainGlobals (Str.ofString "law") = some (some (.ref 270)) by k_is)
  have e2 := hmg.symm.trans e
  injection e2 with e2
  injection e2 with e2
  subst e2
  clear hcd hd D
  wrow_args hpre hlay hrd hwl hlo
  rename Heap.IsList _ _ _ => hL
  rename IntsAre _ _ => hI
  rename ¬ ((63 : Nat) : Int) < _ => hlen
  refine wpAny_mono (E := fun _ _ => False) (wk (d := 400) (u := 1000) (by rfl) (by decide) (by decide) (law_walk w KX T s₁ (Ext.refl _) _ _ _ hL hI (by omega) (fun v s' => v = .bool true ∧ ∃ h' tk, s' = { s₁ with heap := h', toks := tk } ∧ Ext s₁.heap h') (fun h' tk x => ⟨rfl, h', tk, rfl, x⟩))) (fun v s' q => ?_) (fun _ _ q => q.elim)
  obtain ⟨rfl, h', tk, rfl, x⟩ := q
  refine GoodW.toG ⟨Or.inl ⟨.bool true, .bool true, [], rfl, raisesW_false ?_, .bool true, ?_, unshared_nil⟩, x, rfl, hg⟩
  · wrow_none_raised
  · kc_post
end Mine
set_option maxRecDepth 100000 in
set_option maxHeartbeats 8000000 in
theorem PySem.Challenge.cw_xm0035_01_holds : PySem.Challenge.rw_xm0035_01.Holds := by
  exact Mine.top
