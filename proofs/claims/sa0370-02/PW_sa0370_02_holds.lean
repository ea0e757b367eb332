import PyProof.Rows.All
import Wide.All
import OpenK.AllK
import Wide.FinOn
import Lean
import PySem.Challenge.RW_sa0370_02
open PySem PySem.W PyProof.Rows
set_option Elab.async false
set_option maxRecDepth 100000
set_option genSizeOf false
set_option genInjectivity false
set_option linter.all false
set_option linter.unusedVariables false
set_option linter.unusedSimpArgs false
namespace Mine
section
noncomputable def stAt (i : Nat) : Stmt := PySem.Challenge.rw_sa0370_02.row.toRowW.1.main.body.getD i (.Pass ⟨0, 0, 0, 0⟩)
noncomputable def sBody : Stmt → List Stmt
  | .FunctionDef _ _ b .. => b
  | .ClassDef _ _ _ b .. => b
  | _ => []
noncomputable def inAt (i j : Nat) : Stmt := (sBody (stAt i)).getD j (.Pass ⟨0, 0, 0, 0⟩)
noncomputable def sArgs : Stmt → Arguments
  | .FunctionDef _ a .. => a
  | _ => ⟨[], [], none, [], [], none, []⟩
noncomputable def sScope : Stmt → Scope
  | .FunctionDef _ _ _ _ _ _ s .. => s
  | _ => ⟨.function, [], false, false, []⟩
noncomputable def sPos : Stmt → Pos
  | .FunctionDef _ _ _ _ _ _ _ _ _ p => p
  | _ => ⟨0, 0, 0, 0⟩
noncomputable def heap : Params → Frag := fun P => ((nat_lit 2), ⟨.none, none, (.dict #[⟨(PySem.PyData.keyHash P (.ofString "type.__subclasses__.Exception.0")), (.str (.ofString "type.__subclasses__.Exception.0") 394), (.int 112 0)⟩, ⟨(PySem.PyData.keyHash P (.ofString "type.__subclasses__.Exception.n")), (.str (.ofString "type.__subclasses__.Exception.n") 395), (.int 1 0)⟩] 2), #[]⟩) ::
((nat_lit 3), ⟨(.type "dict"), none, (.dict #[⟨(PySem.PyData.keyHash P (.ofString "__name__")), (.str (.ofString "__name__") 165), (.str (.ofString "law_sa0370_02") 777)⟩, ⟨(PySem.PyData.keyHash P (.ofString "__doc__")), (.str (.ofString "__doc__") 166), .none⟩, ⟨(PySem.PyData.keyHash P (.ofString "__package__")), (.str (.ofString "__package__") 167), .none⟩, ⟨(PySem.PyData.keyHash P (.ofString "__loader__")), (.str (.ofString "__loader__") 168), (.builtin "__main__.__loader__#opaque")⟩, ⟨(PySem.PyData.keyHash P (.ofString "__spec__")), (.str (.ofString "__spec__") 169), .none⟩, ⟨(PySem.PyData.keyHash P (.ofString "__annotations__")), (.str (.ofString "__annotations__") 170), (.ref 6)⟩, ⟨(PySem.PyData.keyHash P (.ofString "__builtins__")), (.str (.ofString "__builtins__") 171), (.ref 4)⟩, ⟨(PySem.PyData.keyHash P (.ofString "__file__")), (.str (.ofString "__file__") 173), (.str (.ofString "/claim/cut.py") 172)⟩, ⟨(PySem.PyData.keyHash P (.ofString "__cached__")), (.str (.ofString "__cached__") 174), .none⟩, ⟨(PySem.PyData.keyHash P (.ofString "LINE_ENDS")), (.str (.ofString "LINE_ENDS") 193), (.ref 15)⟩, ⟨(PySem.PyData.keyHash P (.ofString "is_line_end")), (.str (.ofString "is_line_end") 200), (.ref 22)⟩, ⟨(PySem.PyData.keyHash P (.ofString "GREAT")), (.str (.ofString "GREAT") 239), (.ref 35)⟩, ⟨(PySem.PyData.keyHash P (.ofString "TURNS")), (.str (.ofString "TURNS") 262), (.ref 47)⟩, ⟨(PySem.PyData.keyHash P (.ofString "GREAT_ALONE")), (.str (.ofString "GREAT_ALONE") 269), (.ref 48)⟩, ⟨(PySem.PyData.keyHash P (.ofString "SMALL_ALONE")), (.str (.ofString "SMALL_ALONE") 285), (.ref 49)⟩, ⟨(PySem.PyData.keyHash P (.ofString "GREAT_WIDE")), (.str (.ofString "GREAT_WIDE") 301), (.ref 50)⟩, ⟨(PySem.PyData.keyHash P (.ofString "small_code")), (.str (.ofString "small_code") 311), (.ref 57)⟩, ⟨(PySem.PyData.keyHash P (.ofString "great_code")), (.str (.ofString "great_code") 321), (.ref 64)⟩, ⟨(PySem.PyData.keyHash P (.ofString "WORDS")), (.str (.ofString "WORDS") 332), (.ref 69)⟩, ⟨(PySem.PyData.keyHash P (.ofString "has")), (.str (.ofString "has") 343), (.ref 76)⟩, ⟨(PySem.PyData.keyHash P (.ofString "is_word")), (.str (.ofString "is_word") 350), (.ref 83)⟩, ⟨(PySem.PyData.keyHash P (.ofString "canon")), (.str (.ofString "canon") 358), (.ref 90)⟩, ⟨(PySem.PyData.keyHash P (.ofString "has_folded")), (.str (.ofString "has_folded") 364), (.ref 95)⟩, ⟨(PySem.PyData.keyHash P (.ofString "JSFail")), (.str (.ofString "JSFail") 397), (.ref 112)⟩, ⟨(PySem.PyData.keyHash P (.ofString "Limits")), (.str (.ofString "Limits") 440), (.ref 133)⟩, ⟨(PySem.PyData.keyHash P (.ofString "CHAR")), (.str (.ofString "CHAR") 444), (.int 0 443)⟩, ⟨(PySem.PyData.keyHash P (.ofString "ANY")), (.str (.ofString "ANY") 446), (.int 1 445)⟩, ⟨(PySem.PyData.keyHash P (.ofString "CLASS")), (.str (.ofString "CLASS") 448), (.int 2 447)⟩, ⟨(PySem.PyData.keyHash P (.ofString "START")), (.str (.ofString "START") 450), (.int 3 449)⟩, ⟨(PySem.PyData.keyHash P (.ofString "END")), (.str (.ofString "END") 452), (.int 4 451)⟩, ⟨(PySem.PyData.keyHash P (.ofString "BOUNDARY")), (.str (.ofString "BOUNDARY") 454), (.int 5 453)⟩, ⟨(PySem.PyData.keyHash P (.ofString "OPEN")), (.str (.ofString "OPEN") 456), (.int 6 455)⟩, ⟨(PySem.PyData.keyHash P (.ofString "CLOSE")), (.str (.ofString "CLOSE") 458), (.int 7 457)⟩, ⟨(PySem.PyData.keyHash P (.ofString "BACK")), (.str (.ofString "BACK") 460), (.int 8 459)⟩, ⟨(PySem.PyData.keyHash P (.ofString "LOOK")), (.str (.ofString "LOOK") 462), (.int 9 461)⟩, ⟨(PySem.PyData.keyHash P (.ofString "SPLIT")), (.str (.ofString "SPLIT") 464), (.int 10 463)⟩, ⟨(PySem.PyData.keyHash P (.ofString "JUMP")), (.str (.ofString "JUMP") 466), (.int 11 465)⟩, ⟨(PySem.PyData.keyHash P (.ofString "LOOP")), (.str (.ofString "LOOP") 468), (.int 12 467)⟩, ⟨(PySem.PyData.keyHash P (.ofString "HEAD")), (.str (.ofString "HEAD") 470), (.int 13 469)⟩, ⟨(PySem.PyData.keyHash P (.ofString "TAIL")), (.str (.ofString "TAIL") 472), (.int 14 471)⟩, ⟨(PySem.PyData.keyHash P (.ofString "MET")), (.str (.ofString "MET") 474), (.int 15 473)⟩, ⟨(PySem.PyData.keyHash P (.ofString "KEPT_HEAD")), (.str (.ofString "KEPT_HEAD") 476), (.int 32 475)⟩, ⟨(PySem.PyData.keyHash P (.ofString "MOST_KEPT")), (.str (.ofString "MOST_KEPT") 480), (.int 100000000 479)⟩, ⟨(PySem.PyData.keyHash P (.ofString "PatternCode")), (.str (.ofString "PatternCode") 573), (.ref 196)⟩, ⟨(PySem.PyData.keyHash P (.ofString "pattern_code")), (.str (.ofString "pattern_code") 581), (.ref 207)⟩, ⟨(PySem.PyData.keyHash P (.ofString "changed")), (.str (.ofString "changed") 590), (.ref 214)⟩, ⟨(PySem.PyData.keyHash P (.ofString "Search")), (.str (.ofString "Search") 738), (.ref 287)⟩, ⟨(PySem.PyData.keyHash P (.ofString "match_code")), (.str (.ofString "match_code") 755), (.ref 298)⟩, ⟨(PySem.PyData.keyHash P (.ofString "match_at")), (.str (.ofString "match_at") 766), (.ref 305)⟩, ⟨(PySem.PyData.keyHash P (.ofString "group_count")), (.str (.ofString "group_count") 776), (.ref 312)⟩, ⟨(PySem.PyData.keyHash P (.ofString "_law_term")), (.str (.ofString "_law_term") 788), (.ref 319)⟩, ⟨(PySem.PyData.keyHash P (.ofString "_law_whole")), (.str (.ofString "_law_whole") 796), (.ref 326)⟩, ⟨(PySem.PyData.keyHash P (.ofString "law")), (.str (.ofString "law") 802), (.ref 331)⟩] 53), #[]⟩) ::
((nat_lit 15), ⟨(.type "list"), none, (.seq #[(.int 10 189), (.int 13 190), (.int 8232 191), (.int 8233 192)] 0), #[]⟩) ::
((nat_lit 16), ⟨(.type "tuple"), none, (.seq #[] 0), #[]⟩) ::
((nat_lit 18), ⟨(.type "tuple"), none, (.seq #[(.str (.ofString "code") 197)] 0), #[]⟩) ::
((nat_lit 19), ⟨(.type "tuple"), none, (.seq #[] 0), #[]⟩) ::
((nat_lit 21), ⟨(.type "code"), none, (.fields #[(.str (.ofString "is_line_end") 194), (.str (.ofString "is_line_end") 195), (.str (.ofString "/claim/cut.py") 196), (.int 3 0), (.int 1 0), (.int 0 0), (.int 0 0), (.int 3 0), (.ref 16), (.bool true), (.int 181 0), (.ref 17), .none, (.ref 18), (.ref 19), (.ref 20), (.int 198 0), (.int 3 0), (.str (.ofString "/claim/cut.py") 199)]), #[]⟩) ::
((nat_lit 22), ⟨(.type "function"), none, (.func ⟨(.ofString "is_line_end"), (.ofString "is_line_end"), sArgs (stAt 2), .stmts (sBody (stAt 2)), sScope (stAt 2), 3, [], .none, .none, .none, (.str (.ofString "js.chars") 187), none, (.ref 21), .none, 0⟩), #[]⟩) ::
((nat_lit 23), ⟨(.type "tuple"), none, (.seq #[(.int 65 203), (.int 90 204), (.int 32 205)] 0), #[]⟩) ::
((nat_lit 24), ⟨(.type "tuple"), none, (.seq #[(.int 192 206), (.int 214 207), (.int 32 208)] 0), #[]⟩) ::
((nat_lit 25), ⟨(.type "tuple"), none, (.seq #[(.int 216 209), (.int 222 210), (.int 32 211)] 0), #[]⟩) ::
((nat_lit 26), ⟨(.type "tuple"), none, (.seq #[(.int 902 212), (.int 902 213), (.int 38 214)] 0), #[]⟩) ::
((nat_lit 27), ⟨(.type "tuple"), none, (.seq #[(.int 904 215), (.int 906 216), (.int 37 217)] 0), #[]⟩) ::
((nat_lit 28), ⟨(.type "tuple"), none, (.seq #[(.int 908 218), (.int 908 219), (.int 64 220)] 0), #[]⟩) ::
((nat_lit 29), ⟨(.type "tuple"), none, (.seq #[(.int 910 221), (.int 911 222), (.int 63 223)] 0), #[]⟩) ::
((nat_lit 30), ⟨(.type "tuple"), none, (.seq #[(.int 913 224), (.int 929 225), (.int 32 226)] 0), #[]⟩) ::
((nat_lit 31), ⟨(.type "tuple"), none, (.seq #[(.int 931 227), (.int 939 228), (.int 32 229)] 0), #[]⟩) ::
((nat_lit 32), ⟨(.type "tuple"), none, (.seq #[(.int 1024 230), (.int 1039 231), (.int 80 232)] 0), #[]⟩) ::
((nat_lit 33), ⟨(.type "tuple"), none, (.seq #[(.int 1040 233), (.int 1071 234), (.int 32 235)] 0), #[]⟩) ::
((nat_lit 34), ⟨(.type "tuple"), none, (.seq #[(.int 1329 236), (.int 1366 237), (.int 48 238)] 0), #[]⟩) ::
((nat_lit 35), ⟨(.type "list"), none, (.seq #[(.ref 23), (.ref 24), (.ref 25), (.ref 26), (.ref 27), (.ref 28), (.ref 29), (.ref 30), (.ref 31), (.ref 32), (.ref 33), (.ref 34)] 0), #[]⟩) ::
((nat_lit 36), ⟨(.type "tuple"), none, (.seq #[(.int 256 240), (.int 303 241)] 0), #[]⟩) ::
((nat_lit 37), ⟨(.type "tuple"), none, (.seq #[(.int 306 242), (.int 311 243)] 0), #[]⟩) ::
((nat_lit 38), ⟨(.type "tuple"), none, (.seq #[(.int 313 244), (.int 328 245)] 0), #[]⟩) ::
((nat_lit 39), ⟨(.type "tuple"), none, (.seq #[(.int 330 246), (.int 375 247)] 0), #[]⟩) ::
((nat_lit 40), ⟨(.type "tuple"), none, (.seq #[(.int 377 248), (.int 382 249)] 0), #[]⟩) ::
((nat_lit 41), ⟨(.type "tuple"), none, (.seq #[(.int 984 250), (.int 1007 251)] 0), #[]⟩) ::
((nat_lit 42), ⟨(.type "tuple"), none, (.seq #[(.int 1120 252), (.int 1153 253)] 0), #[]⟩) ::
((nat_lit 43), ⟨(.type "tuple"), none, (.seq #[(.int 1162 254), (.int 1215 255)] 0), #[]⟩) ::
((nat_lit 44), ⟨(.type "tuple"), none, (.seq #[(.int 1232 256), (.int 1319 257)] 0), #[]⟩) ::
((nat_lit 45), ⟨(.type "tuple"), none, (.seq #[(.int 7680 258), (.int 7829 259)] 0), #[]⟩) ::
((nat_lit 46), ⟨(.type "tuple"), none, (.seq #[(.int 7840 260), (.int 7935 261)] 0), #[]⟩) ::
((nat_lit 47), ⟨(.type "list"), none, (.seq #[(.ref 36), (.ref 37), (.ref 38), (.ref 39), (.ref 40), (.ref 41), (.ref 42), (.ref 43), (.ref 44), (.ref 45), (.ref 46)] 0), #[]⟩) ::
((nat_lit 48), ⟨(.type "dict"), none, (.dict #[⟨376, (.int 376 263), (.int 255 264)⟩, ⟨304, (.int 304 265), (.int 105 266)⟩] 2), #[]⟩) ::
((nat_lit 49), ⟨(.type "dict"), none, (.dict #[⟨255, (.int 255 270), (.int 376 271)⟩, ⟨181, (.int 181 272), (.int 924 273)⟩, ⟨305, (.int 305 274), (.int 73 275)⟩, ⟨383, (.int 383 276), (.int 83 277)⟩, ⟨962, (.int 962 278), (.int 931 279)⟩] 5), #[]⟩) ::
((nat_lit 50), ⟨(.type "dict"), none, (.dict #[⟨223, (.int 223 286), (.str (.ofString "SS") 287)⟩, ⟨329, (.int 329 288), (.str (.ofString "ʼN") 289)⟩, ⟨912, (.int 912 290), (.str (.ofString "Ϊ́") 291)⟩, ⟨944, (.int 944 292), (.str (.ofString "Ϋ́") 293)⟩, ⟨1415, (.int 1415 294), (.str (.ofString "ԵՒ") 295)⟩] 5), #[]⟩) ::
((nat_lit 51), ⟨(.type "tuple"), none, (.seq #[] 0), #[]⟩) ::
((nat_lit 53), ⟨(.type "tuple"), none, (.seq #[(.str (.ofString "code") 305), (.str (.ofString "first") 306), (.str (.ofString "last") 307), (.str (.ofString "way") 308)] 0), #[]⟩) ::
((nat_lit 54), ⟨(.type "tuple"), none, (.seq #[] 0), #[]⟩) ::
((nat_lit 56), ⟨(.type "code"), none, (.fields #[(.str (.ofString "small_code") 302), (.str (.ofString "small_code") 303), (.str (.ofString "/claim/cut.py") 304), (.int 11 0), (.int 1 0), (.int 0 0), (.int 0 0), (.int 3 0), (.ref 51), (.bool true), (.int 181 0), (.ref 52), .none, (.ref 53), (.ref 54), (.ref 55), (.int 309 0), (.int 11 0), (.str (.ofString "/claim/cut.py") 310)]), #[]⟩) ::
((nat_lit 57), ⟨(.type "function"), none, (.func ⟨(.ofString "small_code"), (.ofString "small_code"), sArgs (stAt 9), .stmts (sBody (stAt 9)), sScope (stAt 9), 3, [], .none, .none, .none, (.str (.ofString "js.textcase") 201), none, (.ref 56), .none, 0⟩), #[]⟩) ::
((nat_lit 58), ⟨(.type "tuple"), none, (.seq #[] 0), #[]⟩) ::
((nat_lit 60), ⟨(.type "tuple"), none, (.seq #[(.str (.ofString "code") 315), (.str (.ofString "first") 316), (.str (.ofString "last") 317), (.str (.ofString "way") 318)] 0), #[]⟩) ::
((nat_lit 61), ⟨(.type "tuple"), none, (.seq #[] 0), #[]⟩) ::
((nat_lit 63), ⟨(.type "code"), none, (.fields #[(.str (.ofString "great_code") 312), (.str (.ofString "great_code") 313), (.str (.ofString "/claim/cut.py") 314), (.int 21 0), (.int 1 0), (.int 0 0), (.int 0 0), (.int 3 0), (.ref 58), (.bool true), (.int 181 0), (.ref 59), .none, (.ref 60), (.ref 61), (.ref 62), (.int 319 0), (.int 21 0), (.str (.ofString "/claim/cut.py") 320)]), #[]⟩) ::
((nat_lit 64), ⟨(.type "function"), none, (.func ⟨(.ofString "great_code"), (.ofString "great_code"), sArgs (stAt 10), .stmts (sBody (stAt 10)), sScope (stAt 10), 3, [], .none, .none, .none, (.str (.ofString "js.textcase") 201), none, (.ref 63), .none, 0⟩), #[]⟩) ::
((nat_lit 65), ⟨(.type "tuple"), none, (.seq #[(.int 48 324), (.int 57 325)] 0), #[]⟩) ::
((nat_lit 66), ⟨(.type "tuple"), none, (.seq #[(.int 65 326), (.int 90 327)] 0), #[]⟩) ::
((nat_lit 67), ⟨(.type "tuple"), none, (.seq #[(.int 95 328), (.int 95 329)] 0), #[]⟩) ::
((nat_lit 68), ⟨(.type "tuple"), none, (.seq #[(.int 97 330), (.int 122 331)] 0), #[]⟩) ::
((nat_lit 69), ⟨(.type "tuple"), none, (.seq #[(.ref 65), (.ref 66), (.ref 67), (.ref 68)] 0), #[]⟩) ::
((nat_lit 70), ⟨(.type "tuple"), none, (.seq #[] 0), #[]⟩) ::
((nat_lit 72), ⟨(.type "tuple"), none, (.seq #[(.str (.ofString "ranges") 336), (.str (.ofString "code") 337), (.str (.ofString "low") 338), (.str (.ofString "high") 339), (.str (.ofString "middle") 340)] 0), #[]⟩) ::
((nat_lit 73), ⟨(.type "tuple"), none, (.seq #[] 0), #[]⟩) ::
((nat_lit 75), ⟨(.type "code"), none, (.fields #[(.str (.ofString "has") 333), (.str (.ofString "has") 334), (.str (.ofString "/claim/cut.py") 335), (.int 33 0), (.int 2 0), (.int 0 0), (.int 0 0), (.int 3 0), (.ref 70), (.bool true), (.int 181 0), (.ref 71), .none, (.ref 72), (.ref 73), (.ref 74), (.int 341 0), (.int 33 0), (.str (.ofString "/claim/cut.py") 342)]), #[]⟩) ::
((nat_lit 76), ⟨(.type "function"), none, (.func ⟨(.ofString "has"), (.ofString "has"), sArgs (stAt 13), .stmts (sBody (stAt 13)), sScope (stAt 13), 3, [], .none, .none, .none, (.str (.ofString "js.reclass") 322), none, (.ref 75), .none, 0⟩), #[]⟩) ::
((nat_lit 77), ⟨(.type "tuple"), none, (.seq #[] 0), #[]⟩) ::
((nat_lit 79), ⟨(.type "tuple"), none, (.seq #[(.str (.ofString "code") 347)] 0), #[]⟩) ::
((nat_lit 80), ⟨(.type "tuple"), none, (.seq #[] 0), #[]⟩) ::
((nat_lit 82), ⟨(.type "code"), none, (.fields #[(.str (.ofString "is_word") 344), (.str (.ofString "is_word") 345), (.str (.ofString "/claim/cut.py") 346), (.int 43 0), (.int 1 0), (.int 0 0), (.int 0 0), (.int 3 0), (.ref 77), (.bool true), (.int 181 0), (.ref 78), .none, (.ref 79), (.ref 80), (.ref 81), (.int 348 0), (.int 43 0), (.str (.ofString "/claim/cut.py") 349)]), #[]⟩) ::
((nat_lit 83), ⟨(.type "function"), none, (.func ⟨(.ofString "is_word"), (.ofString "is_word"), sArgs (stAt 14), .stmts (sBody (stAt 14)), sScope (stAt 14), 3, [], .none, .none, .none, (.str (.ofString "js.reclass") 322), none, (.ref 82), .none, 0⟩), #[]⟩) ::
((nat_lit 84), ⟨(.type "tuple"), none, (.seq #[] 0), #[]⟩) ::
((nat_lit 86), ⟨(.type "tuple"), none, (.seq #[(.str (.ofString "code") 354), (.str (.ofString "great") 355)] 0), #[]⟩) ::
((nat_lit 87), ⟨(.type "tuple"), none, (.seq #[] 0), #[]⟩) ::
((nat_lit 89), ⟨(.type "code"), none, (.fields #[(.str (.ofString "canon") 351), (.str (.ofString "canon") 352), (.str (.ofString "/claim/cut.py") 353), (.int 45 0), (.int 1 0), (.int 0 0), (.int 0 0), (.int 3 0), (.ref 84), (.bool true), (.int 181 0), (.ref 85), .none, (.ref 86), (.ref 87), (.ref 88), (.int 356 0), (.int 45 0), (.str (.ofString "/claim/cut.py") 357)]), #[]⟩) ::
((nat_lit 90), ⟨(.type "function"), none, (.func ⟨(.ofString "canon"), (.ofString "canon"), sArgs (stAt 15), .stmts (sBody (stAt 15)), sScope (stAt 15), 3, [], .none, .none, .none, (.str (.ofString "js.reclass") 322), none, (.ref 89), .none, 0⟩), #[]⟩) ::
((nat_lit 91), ⟨(.type "tuple"), none, (.seq #[] 0), #[]⟩) ::
((nat_lit 94), ⟨(.type "code"), none, (.fields #[(.str (.ofString "has_folded") 359), (.str (.ofString "has_folded") 360), (.str (.ofString "/claim/cut.py") 361), (.int 50 0), (.int 2 0), (.int 0 0), (.int 0 0), (.int 3 0), (.ref 91), (.bool true), (.int 181 0), (.ref 92), .none, .none, .none, (.ref 93), (.int 362 0), (.int 50 0), (.str (.ofString "/claim/cut.py") 363)]), #[]⟩) ::
((nat_lit 95), ⟨(.type "function"), none, (.func ⟨(.ofString "has_folded"), (.ofString "has_folded"), sArgs (stAt 16), .stmts (sBody (stAt 16)), sScope (stAt 16), 3, [], .none, .none, .none, (.str (.ofString "js.reclass") 322), none, (.ref 94), .none, 0⟩), #[]⟩) ::
((nat_lit 96), ⟨(.type "tuple"), none, (.seq #[(.type "Exception")] 0), #[]⟩) ::
((nat_lit 103), ⟨(.type "tuple"), none, (.seq #[] 0), #[]⟩) ::
((nat_lit 105), ⟨(.type "tuple"), none, (.seq #[(.str (.ofString "self") 382), (.str (.ofString "kind") 383), (.str (.ofString "text") 384)] 0), #[]⟩) ::
((nat_lit 106), ⟨(.type "tuple"), none, (.seq #[] 0), #[]⟩) ::
((nat_lit 108), ⟨(.type "code"), none, (.fields #[(.str (.ofString "__init__") 379), (.str (.ofString "JSFail.__init__") 380), (.str (.ofString "/claim/cut.py") 381), (.int 57 0), (.int 3 0), (.int 0 0), (.int 0 0), (.int 3 0), (.ref 103), (.bool true), (.int 181 0), (.ref 104), .none, (.ref 105), (.ref 106), (.ref 107), (.int 385 0), (.int 57 0), (.str (.ofString "/claim/cut.py") 386)]), #[]⟩) ::
((nat_lit 109), ⟨(.type "function"), none, (.func ⟨(.ofString "__init__"), (.ofString "JSFail.__init__"), sArgs (inAt 18 0), .stmts (sBody (inAt 18 0)), sScope (inAt 18 0), 3, [], .none, .none, .none, (.str (.ofString "js.values") 365), none, (.ref 108), .none, 0⟩), #[]⟩) ::
((nat_lit 110), ⟨(.type "tuple"), none, (.seq #[(.str (.ofString "kind") 388), (.str (.ofString "text") 389)] 0), #[]⟩) ::
((nat_lit 111), ⟨(.type "dict"), none, (.dict #[⟨(PySem.PyData.keyHash P (.ofString "__module__")), (.str (.ofString "__module__") 374), (.str (.ofString "js.values") 365)⟩, ⟨(PySem.PyData.keyHash P (.ofString "__firstlineno__")), (.str (.ofString "__firstlineno__") 378), (.int 55 377)⟩, ⟨(PySem.PyData.keyHash P (.ofString "__init__")), (.str (.ofString "__init__") 387), (.ref 109)⟩, ⟨(PySem.PyData.keyHash P (.ofString "__static_attributes__")), (.str (.ofString "__static_attributes__") 390), (.ref 110)⟩, ⟨(PySem.PyData.keyHash P (.ofString "__weakref__")), (.str (.ofString "__weakref__") 392), (.ref 113)⟩, ⟨(PySem.PyData.keyHash P (.ofString "__doc__")), (.str (.ofString "__doc__") 393), .none⟩] 3), #[]⟩) ::
((nat_lit 112), ⟨(.type "type"), none, (.cls ⟨(.ofString "JSFail"), [(.type "Exception")], [(.ref 112), (.type "Exception"), (.type "BaseException"), (.type "object")], 111, (.ofString "JSFail"), true, [], [], false, none, false⟩), #[(some (.ref 96)), none, (some (.str (.ofString "JSFail") 367)), (some (.str (.ofString "JSFail") 375)), (some (.builtin "Exception.__new__")), (some (.bool true))]⟩) ::
((nat_lit 113), ⟨(.type "getset_descriptor"), none, (.fields #[(.str (.ofString "__weakref__") 391), (.ref 112), (.builtin "ExceptionGroup.__weakref__"), .none]), #[]⟩) ::
((nat_lit 123), ⟨(.type "tuple"), none, (.seq #[(.int 40 410), (.int 200 411), (.int 1000000000 414), (.int 1000000 417)] 0), #[]⟩) ::
((nat_lit 124), ⟨(.type "tuple"), none, (.seq #[] 0), #[]⟩) ::
((nat_lit 126), ⟨(.type "tuple"), none, (.seq #[(.str (.ofString "self") 421), (.str (.ofString "depth") 422), (.str (.ofString "frames") 423), (.str (.ofString "steps") 424), (.str (.ofString "text") 425)] 0), #[]⟩) ::
((nat_lit 127), ⟨(.type "tuple"), none, (.seq #[] 0), #[]⟩) ::
((nat_lit 129), ⟨(.type "code"), none, (.fields #[(.str (.ofString "__init__") 418), (.str (.ofString "Limits.__init__") 419), (.str (.ofString "/claim/cut.py") 420), (.int 62 0), (.int 5 0), (.int 0 0), (.int 0 0), (.int 3 0), (.ref 124), (.bool true), (.int 181 0), (.ref 125), .none, (.ref 126), (.ref 127), (.ref 128), (.int 426 0), (.int 62 0), (.str (.ofString "/claim/cut.py") 427)]), #[]⟩) ::
((nat_lit 130), ⟨(.type "function"), none, (.func ⟨(.ofString "__init__"), (.ofString "Limits.__init__"), sArgs (inAt 19 0), .stmts (sBody (inAt 19 0)), sScope (inAt 19 0), 3, [], (.ref 123), .none, .none, (.str (.ofString "js.values") 365), none, (.ref 129), .none, 0⟩), #[]⟩) ::
((nat_lit 131), ⟨(.type "tuple"), none, (.seq #[(.str (.ofString "depth") 429), (.str (.ofString "frames") 430), (.str (.ofString "steps") 431), (.str (.ofString "text") 432)] 0), #[]⟩) ::
((nat_lit 132), ⟨(.type "dict"), none, (.dict #[⟨(PySem.PyData.keyHash P (.ofString "__module__")), (.str (.ofString "__module__") 405), (.str (.ofString "js.values") 365)⟩, ⟨(PySem.PyData.keyHash P (.ofString "__firstlineno__")), (.str (.ofString "__firstlineno__") 409), (.int 60 408)⟩, ⟨(PySem.PyData.keyHash P (.ofString "__init__")), (.str (.ofString "__init__") 428), (.ref 130)⟩, ⟨(PySem.PyData.keyHash P (.ofString "__static_attributes__")), (.str (.ofString "__static_attributes__") 433), (.ref 131)⟩, ⟨(PySem.PyData.keyHash P (.ofString "__dict__")), (.str (.ofString "__dict__") 435), (.ref 134)⟩, ⟨(PySem.PyData.keyHash P (.ofString "__weakref__")), (.str (.ofString "__weakref__") 437), (.ref 135)⟩, ⟨(PySem.PyData.keyHash P (.ofString "__doc__")), (.str (.ofString "__doc__") 438), .none⟩] 4), #[]⟩) ::
((nat_lit 133), ⟨(.type "type"), none, (.cls ⟨(.ofString "Limits"), [(.type "object")], [(.ref 133), (.type "object")], 132, (.ofString "Limits"), true, [], [], false, none, false⟩), #[none, none, (some (.str (.ofString "Limits") 398)), (some (.str (.ofString "Limits") 406)), (some (.builtin "object.__new__")), (some (.bool true))]⟩) ::
((nat_lit 134), ⟨(.type "getset_descriptor"), none, (.fields #[(.str (.ofString "__dict__") 434), (.ref 133), (.builtin "function.__dict__"), (.builtin "function.__dict__#set")]), #[]⟩) ::
((nat_lit 135), ⟨(.type "getset_descriptor"), none, (.fields #[(.str (.ofString "__weakref__") 436), (.ref 133), (.builtin "ExceptionGroup.__weakref__"), .none]), #[]⟩) ::
((nat_lit 145), ⟨(.type "tuple"), none, (.seq #[] 0), #[]⟩) ::
((nat_lit 147), ⟨(.type "tuple"), none, (.seq #[(.str (.ofString "self") 496)] 0), #[]⟩) ::
((nat_lit 148), ⟨(.type "tuple"), none, (.seq #[] 0), #[]⟩) ::
((nat_lit 150), ⟨(.type "code"), none, (.fields #[(.str (.ofString "__init__") 493), (.str (.ofString "PatternCode.__init__") 494), (.str (.ofString "/claim/cut.py") 495), (.int 88 0), (.int 1 0), (.int 0 0), (.int 0 0), (.int 3 0), (.ref 145), (.bool true), (.int 181 0), (.ref 146), .none, (.ref 147), (.ref 148), (.ref 149), (.int 497 0), (.int 88 0), (.str (.ofString "/claim/cut.py") 498)]), #[]⟩) ::
((nat_lit 151), ⟨(.type "function"), none, (.func ⟨(.ofString "__init__"), (.ofString "PatternCode.__init__"), sArgs (inAt 39 0), .stmts (sBody (inAt 39 0)), sScope (inAt 39 0), 3, [], .none, .none, .none, (.str (.ofString "js.rematch") 441), none, (.ref 150), .none, 0⟩), #[]⟩) ::
((nat_lit 152), ⟨(.type "tuple"), none, (.seq #[] 0), #[]⟩) ::
((nat_lit 154), ⟨(.type "tuple"), none, (.seq #[(.str (.ofString "self") 503), (.str (.ofString "step") 504)] 0), #[]⟩) ::
((nat_lit 155), ⟨(.type "tuple"), none, (.seq #[] 0), #[]⟩) ::
((nat_lit 157), ⟨(.type "code"), none, (.fields #[(.str (.ofString "emit") 500), (.str (.ofString "PatternCode.emit") 501), (.str (.ofString "/claim/cut.py") 502), (.int 92 0), (.int 2 0), (.int 0 0), (.int 0 0), (.int 3 0), (.ref 152), (.bool true), (.int 181 0), (.ref 153), .none, (.ref 154), (.ref 155), (.ref 156), (.int 505 0), (.int 92 0), (.str (.ofString "/claim/cut.py") 506)]), #[]⟩) ::
((nat_lit 158), ⟨(.type "function"), none, (.func ⟨(.ofString "emit"), (.ofString "PatternCode.emit"), sArgs (inAt 39 1), .stmts (sBody (inAt 39 1)), sScope (inAt 39 1), 3, [], .none, .none, .none, (.str (.ofString "js.rematch") 441), none, (.ref 157), .none, 0⟩), #[]⟩) ::
((nat_lit 159), ⟨(.type "tuple"), none, (.seq #[] 0), #[]⟩) ::
((nat_lit 161), ⟨(.type "tuple"), none, (.seq #[(.str (.ofString "self") 511), (.str (.ofString "tree") 512), (.str (.ofString "kind") 513), (.str (.ofString "term") 514), (.str (.ofString "at") 515)] 0), #[]⟩) ::
((nat_lit 162), ⟨(.type "tuple"), none, (.seq #[] 0), #[]⟩) ::
((nat_lit 164), ⟨(.type "code"), none, (.fields #[(.str (.ofString "put") 508), (.str (.ofString "PatternCode.put") 509), (.str (.ofString "/claim/cut.py") 510), (.int 96 0), (.int 2 0), (.int 0 0), (.int 0 0), (.int 3 0), (.ref 159), (.bool true), (.int 181 0), (.ref 160), .none, (.ref 161), (.ref 162), (.ref 163), (.int 516 0), (.int 96 0), (.str (.ofString "/claim/cut.py") 517)]), #[]⟩) ::
((nat_lit 165), ⟨(.type "function"), none, (.func ⟨(.ofString "put"), (.ofString "PatternCode.put"), sArgs (inAt 39 2), .stmts (sBody (inAt 39 2)), sScope (inAt 39 2), 3, [], .none, .none, .none, (.str (.ofString "js.rematch") 441), none, (.ref 164), .none, 0⟩), #[]⟩) ::
((nat_lit 166), ⟨(.type "tuple"), none, (.seq #[] 0), #[]⟩) ::
((nat_lit 168), ⟨(.type "tuple"), none, (.seq #[(.str (.ofString "self") 522), (.str (.ofString "tree") 523), (.str (.ofString "kind") 524)] 0), #[]⟩) ::
((nat_lit 169), ⟨(.type "tuple"), none, (.seq #[] 0), #[]⟩) ::
((nat_lit 171), ⟨(.type "code"), none, (.fields #[(.str (.ofString "plain") 519), (.str (.ofString "PatternCode.plain") 520), (.str (.ofString "/claim/cut.py") 521), (.int 115 0), (.int 2 0), (.int 0 0), (.int 0 0), (.int 3 0), (.ref 166), (.bool true), (.int 181 0), (.ref 167), .none, (.ref 168), (.ref 169), (.ref 170), (.int 525 0), (.int 115 0), (.str (.ofString "/claim/cut.py") 526)]), #[]⟩) ::
((nat_lit 172), ⟨(.type "function"), none, (.func ⟨(.ofString "plain"), (.ofString "PatternCode.plain"), sArgs (inAt 39 3), .stmts (sBody (inAt 39 3)), sScope (inAt 39 3), 3, [], .none, .none, .none, (.str (.ofString "js.rematch") 441), none, (.ref 171), .none, 0⟩), #[]⟩) ::
((nat_lit 173), ⟨(.type "tuple"), none, (.seq #[] 0), #[]⟩) ::
((nat_lit 175), ⟨(.type "tuple"), none, (.seq #[(.str (.ofString "self") 531), (.str (.ofString "trees") 532), (.str (.ofString "ends") 533), (.str (.ofString "tree") 534), (.str (.ofString "at") 535)] 0), #[]⟩) ::
((nat_lit 176), ⟨(.type "tuple"), none, (.seq #[] 0), #[]⟩) ::
((nat_lit 178), ⟨(.type "code"), none, (.fields #[(.str (.ofString "put_choice") 528), (.str (.ofString "PatternCode.put_choice") 529), (.str (.ofString "/claim/cut.py") 530), (.int 127 0), (.int 2 0), (.int 0 0), (.int 0 0), (.int 3 0), (.ref 173), (.bool true), (.int 181 0), (.ref 174), .none, (.ref 175), (.ref 176), (.ref 177), (.int 536 0), (.int 127 0), (.str (.ofString "/claim/cut.py") 537)]), #[]⟩) ::
((nat_lit 179), ⟨(.type "function"), none, (.func ⟨(.ofString "put_choice"), (.ofString "PatternCode.put_choice"), sArgs (inAt 39 4), .stmts (sBody (inAt 39 4)), sScope (inAt 39 4), 3, [], .none, .none, .none, (.str (.ofString "js.rematch") 441), none, (.ref 178), .none, 0⟩), #[]⟩) ::
((nat_lit 180), ⟨(.type "tuple"), none, (.seq #[] 0), #[]⟩) ::
((nat_lit 182), ⟨(.type "tuple"), none, (.seq #[(.str (.ofString "self") 542), (.str (.ofString "number") 543), (.str (.ofString "tree") 544)] 0), #[]⟩) ::
((nat_lit 183), ⟨(.type "tuple"), none, (.seq #[] 0), #[]⟩) ::
((nat_lit 185), ⟨(.type "code"), none, (.fields #[(.str (.ofString "put_group") 539), (.str (.ofString "PatternCode.put_group") 540), (.str (.ofString "/claim/cut.py") 541), (.int 138 0), (.int 3 0), (.int 0 0), (.int 0 0), (.int 3 0), (.ref 180), (.bool true), (.int 181 0), (.ref 181), .none, (.ref 182), (.ref 183), (.ref 184), (.int 545 0), (.int 138 0), (.str (.ofString "/claim/cut.py") 546)]), #[]⟩) ::
((nat_lit 186), ⟨(.type "function"), none, (.func ⟨(.ofString "put_group"), (.ofString "PatternCode.put_group"), sArgs (inAt 39 5), .stmts (sBody (inAt 39 5)), sScope (inAt 39 5), 3, [], .none, .none, .none, (.str (.ofString "js.rematch") 441), none, (.ref 185), .none, 0⟩), #[]⟩) ::
((nat_lit 187), ⟨(.type "tuple"), none, (.seq #[] 0), #[]⟩) ::
((nat_lit 189), ⟨(.type "tuple"), none, (.seq #[(.str (.ofString "self") 551), (.str (.ofString "tree") 552), (.str (.ofString "least") 553), (.str (.ofString "most") 554), (.str (.ofString "is_lazy") 555), (.str (.ofString "term") 556), (.str (.ofString "first") 557), (.str (.ofString "behind") 558), (.str (.ofString "loop") 559), (.str (.ofString "head") 560)] 0), #[]⟩) ::
((nat_lit 190), ⟨(.type "tuple"), none, (.seq #[] 0), #[]⟩) ::
((nat_lit 192), ⟨(.type "code"), none, (.fields #[(.str (.ofString "put_repeat") 548), (.str (.ofString "PatternCode.put_repeat") 549), (.str (.ofString "/claim/cut.py") 550), (.int 146 0), (.int 2 0), (.int 0 0), (.int 0 0), (.int 3 0), (.ref 187), (.bool true), (.int 181 0), (.ref 188), .none, (.ref 189), (.ref 190), (.ref 191), (.int 561 0), (.int 146 0), (.str (.ofString "/claim/cut.py") 562)]), #[]⟩) ::
((nat_lit 193), ⟨(.type "function"), none, (.func ⟨(.ofString "put_repeat"), (.ofString "PatternCode.put_repeat"), sArgs (inAt 39 6), .stmts (sBody (inAt 39 6)), sScope (inAt 39 6), 3, [], .none, .none, .none, (.str (.ofString "js.rematch") 441), none, (.ref 192), .none, 0⟩), #[]⟩) ::
((nat_lit 194), ⟨(.type "tuple"), none, (.seq #[(.str (.ofString "loops") 564), (.str (.ofString "steps") 565)] 0), #[]⟩) ::
((nat_lit 195), ⟨(.type "dict"), none, (.dict #[⟨(PySem.PyData.keyHash P (.ofString "__module__")), (.str (.ofString "__module__") 488), (.str (.ofString "js.rematch") 441)⟩, ⟨(PySem.PyData.keyHash P (.ofString "__firstlineno__")), (.str (.ofString "__firstlineno__") 492), (.int 86 491)⟩, ⟨(PySem.PyData.keyHash P (.ofString "__init__")), (.str (.ofString "__init__") 499), (.ref 151)⟩, ⟨(PySem.PyData.keyHash P (.ofString "emit")), (.str (.ofString "emit") 507), (.ref 158)⟩, ⟨(PySem.PyData.keyHash P (.ofString "put")), (.str (.ofString "put") 518), (.ref 165)⟩, ⟨(PySem.PyData.keyHash P (.ofString "plain")), (.str (.ofString "plain") 527), (.ref 172)⟩, ⟨(PySem.PyData.keyHash P (.ofString "put_choice")), (.str (.ofString "put_choice") 538), (.ref 179)⟩, ⟨(PySem.PyData.keyHash P (.ofString "put_group")), (.str (.ofString "put_group") 547), (.ref 186)⟩, ⟨(PySem.PyData.keyHash P (.ofString "put_repeat")), (.str (.ofString "put_repeat") 563), (.ref 193)⟩, ⟨(PySem.PyData.keyHash P (.ofString "__static_attributes__")), (.str (.ofString "__static_attributes__") 566), (.ref 194)⟩, ⟨(PySem.PyData.keyHash P (.ofString "__dict__")), (.str (.ofString "__dict__") 568), (.ref 197)⟩, ⟨(PySem.PyData.keyHash P (.ofString "__weakref__")), (.str (.ofString "__weakref__") 570), (.ref 198)⟩, ⟨(PySem.PyData.keyHash P (.ofString "__doc__")), (.str (.ofString "__doc__") 571), .none⟩] 4), #[]⟩) ::
((nat_lit 196), ⟨(.type "type"), none, (.cls ⟨(.ofString "PatternCode"), [(.type "object")], [(.ref 196), (.type "object")], 195, (.ofString "PatternCode"), true, [], [], false, none, false⟩), #[none, none, (some (.str (.ofString "PatternCode") 481)), (some (.str (.ofString "PatternCode") 489)), (some (.builtin "object.__new__")), (some (.bool true))]⟩) ::
((nat_lit 197), ⟨(.type "getset_descriptor"), none, (.fields #[(.str (.ofString "__dict__") 567), (.ref 196), (.builtin "function.__dict__"), (.builtin "function.__dict__#set")]), #[]⟩) ::
((nat_lit 198), ⟨(.type "getset_descriptor"), none, (.fields #[(.str (.ofString "__weakref__") 569), (.ref 196), (.builtin "ExceptionGroup.__weakref__"), .none]), #[]⟩) ::
((nat_lit 201), ⟨(.type "tuple"), none, (.seq #[] 0), #[]⟩) ::
((nat_lit 203), ⟨(.type "tuple"), none, (.seq #[(.str (.ofString "tree") 577), (.str (.ofString "code") 578)] 0), #[]⟩) ::
((nat_lit 204), ⟨(.type "tuple"), none, (.seq #[] 0), #[]⟩) ::
((nat_lit 206), ⟨(.type "code"), none, (.fields #[(.str (.ofString "pattern_code") 574), (.str (.ofString "pattern_code") 575), (.str (.ofString "/claim/cut.py") 576), (.int 155 0), (.int 1 0), (.int 0 0), (.int 0 0), (.int 3 0), (.ref 201), (.bool true), (.int 181 0), (.ref 202), .none, (.ref 203), (.ref 204), (.ref 205), (.int 579 0), (.int 155 0), (.str (.ofString "/claim/cut.py") 580)]), #[]⟩) ::
((nat_lit 207), ⟨(.type "function"), none, (.func ⟨(.ofString "pattern_code"), (.ofString "pattern_code"), sArgs (stAt 40), .stmts (sBody (stAt 40)), sScope (stAt 40), 3, [], .none, .none, .none, (.str (.ofString "js.rematch") 441), none, (.ref 206), .none, 0⟩), #[]⟩) ::
((nat_lit 208), ⟨(.type "tuple"), none, (.seq #[] 0), #[]⟩) ::
((nat_lit 210), ⟨(.type "tuple"), none, (.seq #[(.str (.ofString "row") 585), (.str (.ofString "at") 586), (.str (.ofString "value") 587)] 0), #[]⟩) ::
((nat_lit 211), ⟨(.type "tuple"), none, (.seq #[] 0), #[]⟩) ::
((nat_lit 213), ⟨(.type "code"), none, (.fields #[(.str (.ofString "changed") 582), (.str (.ofString "changed") 583), (.str (.ofString "/claim/cut.py") 584), (.int 160 0), (.int 3 0), (.int 0 0), (.int 0 0), (.int 3 0), (.ref 208), (.bool true), (.int 181 0), (.ref 209), .none, (.ref 210), (.ref 211), (.ref 212), (.int 588 0), (.int 160 0), (.str (.ofString "/claim/cut.py") 589)]), #[]⟩) ::
((nat_lit 214), ⟨(.type "function"), none, (.func ⟨(.ofString "changed"), (.ofString "changed"), sArgs (stAt 41), .stmts (sBody (stAt 41)), sScope (stAt 41), 3, [], .none, .none, .none, (.str (.ofString "js.rematch") 441), none, (.ref 213), .none, 0⟩), #[]⟩) ::
((nat_lit 222), ⟨(.type "tuple"), none, (.seq #[] 0), #[]⟩) ::
((nat_lit 224), ⟨(.type "tuple"), none, (.seq #[(.str (.ofString "self") 606), (.str (.ofString "steps") 607), (.str (.ofString "text") 608), (.str (.ofString "ignores_case") 609), (.str (.ofString "is_multiline") 610), (.str (.ofString "limits") 611)] 0), #[]⟩) ::
((nat_lit 225), ⟨(.type "tuple"), none, (.seq #[] 0), #[]⟩) ::
((nat_lit 227), ⟨(.type "code"), none, (.fields #[(.str (.ofString "__init__") 603), (.str (.ofString "Search.__init__") 604), (.str (.ofString "/claim/cut.py") 605), (.int 164 0), (.int 6 0), (.int 0 0), (.int 0 0), (.int 3 0), (.ref 222), (.bool true), (.int 181 0), (.ref 223), .none, (.ref 224), (.ref 225), (.ref 226), (.int 612 0), (.int 164 0), (.str (.ofString "/claim/cut.py") 613)]), #[]⟩) ::
((nat_lit 228), ⟨(.type "function"), none, (.func ⟨(.ofString "__init__"), (.ofString "Search.__init__"), sArgs (inAt 42 0), .stmts (sBody (inAt 42 0)), sScope (inAt 42 0), 3, [], .none, .none, .none, (.str (.ofString "js.rematch") 441), none, (.ref 227), .none, 0⟩), #[]⟩) ::
((nat_lit 229), ⟨(.type "tuple"), none, (.seq #[] 0), #[]⟩) ::
((nat_lit 231), ⟨(.type "tuple"), none, (.seq #[(.str (.ofString "self") 618), (.str (.ofString "pc") 619), (.str (.ofString "at") 620), (.str (.ofString "groups") 621), (.str (.ofString "loops") 622), (.str (.ofString "bottom") 623), (.str (.ofString "state") 624), (.str (.ofString "step") 625)] 0), #[]⟩) ::
((nat_lit 232), ⟨(.type "tuple"), none, (.seq #[] 0), #[]⟩) ::
((nat_lit 234), ⟨(.type "code"), none, (.fields #[(.str (.ofString "run") 615), (.str (.ofString "Search.run") 616), (.str (.ofString "/claim/cut.py") 617), (.int 172 0), (.int 5 0), (.int 0 0), (.int 0 0), (.int 3 0), (.ref 229), (.bool true), (.int 181 0), (.ref 230), .none, (.ref 231), (.ref 232), (.ref 233), (.int 626 0), (.int 172 0), (.str (.ofString "/claim/cut.py") 627)]), #[]⟩) ::
((nat_lit 235), ⟨(.type "function"), none, (.func ⟨(.ofString "run"), (.ofString "Search.run"), sArgs (inAt 42 1), .stmts (sBody (inAt 42 1)), sScope (inAt 42 1), 3, [], .none, .none, .none, (.str (.ofString "js.rematch") 441), none, (.ref 234), .none, 0⟩), #[]⟩) ::
((nat_lit 236), ⟨(.type "tuple"), none, (.seq #[] 0), #[]⟩) ::
((nat_lit 238), ⟨(.type "tuple"), none, (.seq #[(.str (.ofString "self") 632), (.str (.ofString "state") 633)] 0), #[]⟩) ::
((nat_lit 239), ⟨(.type "tuple"), none, (.seq #[] 0), #[]⟩) ::
((nat_lit 241), ⟨(.type "code"), none, (.fields #[(.str (.ofString "keep") 629), (.str (.ofString "Search.keep") 630), (.str (.ofString "/claim/cut.py") 631), (.int 188 0), (.int 2 0), (.int 0 0), (.int 0 0), (.int 3 0), (.ref 236), (.bool true), (.int 181 0), (.ref 237), .none, (.ref 238), (.ref 239), (.ref 240), (.int 634 0), (.int 188 0), (.str (.ofString "/claim/cut.py") 635)]), #[]⟩) ::
((nat_lit 242), ⟨(.type "function"), none, (.func ⟨(.ofString "keep"), (.ofString "Search.keep"), sArgs (inAt 42 2), .stmts (sBody (inAt 42 2)), sScope (inAt 42 2), 3, [], .none, .none, .none, (.str (.ofString "js.rematch") 441), none, (.ref 241), .none, 0⟩), #[]⟩) ::
((nat_lit 243), ⟨(.type "tuple"), none, (.seq #[] 0), #[]⟩) ::
((nat_lit 245), ⟨(.type "tuple"), none, (.seq #[(.str (.ofString "self") 640), (.str (.ofString "step") 641), (.str (.ofString "state") 642), (.str (.ofString "what") 643), (.str (.ofString "pc") 644), (.str (.ofString "at") 645), (.str (.ofString "groups") 646), (.str (.ofString "loops") 647), (.str (.ofString "is_met") 648), (.str (.ofString "end") 649)] 0), #[]⟩) ::
((nat_lit 246), ⟨(.type "tuple"), none, (.seq #[] 0), #[]⟩) ::
((nat_lit 248), ⟨(.type "code"), none, (.fields #[(.str (.ofString "advance") 637), (.str (.ofString "Search.advance") 638), (.str (.ofString "/claim/cut.py") 639), (.int 193 0), (.int 3 0), (.int 0 0), (.int 0 0), (.int 3 0), (.ref 243), (.bool true), (.int 181 0), (.ref 244), .none, (.ref 245), (.ref 246), (.ref 247), (.int 650 0), (.int 193 0), (.str (.ofString "/claim/cut.py") 651)]), #[]⟩) ::
((nat_lit 249), ⟨(.type "function"), none, (.func ⟨(.ofString "advance"), (.ofString "Search.advance"), sArgs (inAt 42 3), .stmts (sBody (inAt 42 3)), sScope (inAt 42 3), 3, [], .none, .none, .none, (.str (.ofString "js.rematch") 441), none, (.ref 248), .none, 0⟩), #[]⟩) ::
((nat_lit 250), ⟨(.type "tuple"), none, (.seq #[] 0), #[]⟩) ::
((nat_lit 252), ⟨(.type "tuple"), none, (.seq #[(.str (.ofString "self") 656), (.str (.ofString "step") 657), (.str (.ofString "code") 658), (.str (.ofString "is_in") 659)] 0), #[]⟩) ::
((nat_lit 253), ⟨(.type "tuple"), none, (.seq #[] 0), #[]⟩) ::
((nat_lit 255), ⟨(.type "code"), none, (.fields #[(.str (.ofString "takes") 653), (.str (.ofString "Search.takes") 654), (.str (.ofString "/claim/cut.py") 655), (.int 216 0), (.int 3 0), (.int 0 0), (.int 0 0), (.int 3 0), (.ref 250), (.bool true), (.int 181 0), (.ref 251), .none, (.ref 252), (.ref 253), (.ref 254), (.int 660 0), (.int 216 0), (.str (.ofString "/claim/cut.py") 661)]), #[]⟩) ::
((nat_lit 256), ⟨(.type "function"), none, (.func ⟨(.ofString "takes"), (.ofString "Search.takes"), sArgs (inAt 42 4), .stmts (sBody (inAt 42 4)), sScope (inAt 42 4), 3, [], .none, .none, .none, (.str (.ofString "js.rematch") 441), none, (.ref 255), .none, 0⟩), #[]⟩) ::
((nat_lit 257), ⟨(.type "tuple"), none, (.seq #[] 0), #[]⟩) ::
((nat_lit 259), ⟨(.type "tuple"), none, (.seq #[(.str (.ofString "self") 666), (.str (.ofString "step") 667), (.str (.ofString "at") 668), (.str (.ofString "text") 669), (.str (.ofString "is_behind") 670), (.str (.ofString "is_ahead") 671)] 0), #[]⟩) ::
((nat_lit 260), ⟨(.type "tuple"), none, (.seq #[] 0), #[]⟩) ::
((nat_lit 262), ⟨(.type "code"), none, (.fields #[(.str (.ofString "stands") 663), (.str (.ofString "Search.stands") 664), (.str (.ofString "/claim/cut.py") 665), (.int 224 0), (.int 3 0), (.int 0 0), (.int 0 0), (.int 3 0), (.ref 257), (.bool true), (.int 181 0), (.ref 258), .none, (.ref 259), (.ref 260), (.ref 261), (.int 672 0), (.int 224 0), (.str (.ofString "/claim/cut.py") 673)]), #[]⟩) ::
((nat_lit 263), ⟨(.type "function"), none, (.func ⟨(.ofString "stands"), (.ofString "Search.stands"), sArgs (inAt 42 5), .stmts (sBody (inAt 42 5)), sScope (inAt 42 5), 3, [], .none, .none, .none, (.str (.ofString "js.rematch") 441), none, (.ref 262), .none, 0⟩), #[]⟩) ::
((nat_lit 264), ⟨(.type "tuple"), none, (.seq #[] 0), #[]⟩) ::
((nat_lit 266), ⟨(.type "tuple"), none, (.seq #[(.str (.ofString "self") 678), (.str (.ofString "group") 679), (.str (.ofString "at") 680), (.str (.ofString "end") 681), (.str (.ofString "one") 682), (.str (.ofString "other") 683)] 0), #[]⟩) ::
((nat_lit 267), ⟨(.type "tuple"), none, (.seq #[] 0), #[]⟩) ::
((nat_lit 269), ⟨(.type "code"), none, (.fields #[(.str (.ofString "again") 675), (.str (.ofString "Search.again") 676), (.str (.ofString "/claim/cut.py") 677), (.int 234 0), (.int 3 0), (.int 0 0), (.int 0 0), (.int 3 0), (.ref 264), (.bool true), (.int 181 0), (.ref 265), .none, (.ref 266), (.ref 267), (.ref 268), (.int 684 0), (.int 234 0), (.str (.ofString "/claim/cut.py") 685)]), #[]⟩) ::
((nat_lit 270), ⟨(.type "function"), none, (.func ⟨(.ofString "again"), (.ofString "Search.again"), sArgs (inAt 42 6), .stmts (sBody (inAt 42 6)), sScope (inAt 42 6), 3, [], .none, .none, .none, (.str (.ofString "js.rematch") 441), none, (.ref 269), .none, 0⟩), #[]⟩) ::
((nat_lit 271), ⟨(.type "tuple"), none, (.seq #[] 0), #[]⟩) ::
((nat_lit 273), ⟨(.type "tuple"), none, (.seq #[(.str (.ofString "self") 690), (.str (.ofString "step") 691), (.str (.ofString "state") 692), (.str (.ofString "pc") 693), (.str (.ofString "at") 694), (.str (.ofString "groups") 695), (.str (.ofString "loops") 696), (.str (.ofString "found") 697)] 0), #[]⟩) ::
((nat_lit 274), ⟨(.type "tuple"), none, (.seq #[] 0), #[]⟩) ::
((nat_lit 276), ⟨(.type "code"), none, (.fields #[(.str (.ofString "look") 687), (.str (.ofString "Search.look") 688), (.str (.ofString "/claim/cut.py") 689), (.int 245 0), (.int 3 0), (.int 0 0), (.int 0 0), (.int 3 0), (.ref 271), (.bool true), (.int 181 0), (.ref 272), .none, (.ref 273), (.ref 274), (.ref 275), (.int 698 0), (.int 245 0), (.str (.ofString "/claim/cut.py") 699)]), #[]⟩) ::
((nat_lit 277), ⟨(.type "function"), none, (.func ⟨(.ofString "look"), (.ofString "Search.look"), sArgs (inAt 42 7), .stmts (sBody (inAt 42 7)), sScope (inAt 42 7), 3, [], .none, .none, .none, (.str (.ofString "js.rematch") 441), none, (.ref 276), .none, 0⟩), #[]⟩) ::
((nat_lit 278), ⟨(.type "tuple"), none, (.seq #[] 0), #[]⟩) ::
((nat_lit 280), ⟨(.type "tuple"), none, (.seq #[(.str (.ofString "self") 704), (.str (.ofString "step") 705), (.str (.ofString "state") 706), (.str (.ofString "pc") 707), (.str (.ofString "at") 708), (.str (.ofString "groups") 709), (.str (.ofString "loops") 710), (.str (.ofString "count") 711), (.str (.ofString "begin") 712), (.str (.ofString "least") 713), (.str (.ofString "most") 714), (.str (.ofString "is_lazy") 715), (.str (.ofString "first") 716), (.str (.ofString "behind") 717), (.str (.ofString "out") 718), (.str (.ofString "leave") 719), (.str (.ofString "number") 720), (.str (.ofString "once") 721)] 0), #[]⟩) ::
((nat_lit 281), ⟨(.type "tuple"), none, (.seq #[] 0), #[]⟩) ::
((nat_lit 283), ⟨(.type "code"), none, (.fields #[(.str (.ofString "repeat") 701), (.str (.ofString "Search.repeat") 702), (.str (.ofString "/claim/cut.py") 703), (.int 252 0), (.int 3 0), (.int 0 0), (.int 0 0), (.int 3 0), (.ref 278), (.bool true), (.int 181 0), (.ref 279), .none, (.ref 280), (.ref 281), (.ref 282), (.int 722 0), (.int 252 0), (.str (.ofString "/claim/cut.py") 723)]), #[]⟩) ::
((nat_lit 284), ⟨(.type "function"), none, (.func ⟨(.ofString "repeat"), (.ofString "Search.repeat"), sArgs (inAt 42 8), .stmts (sBody (inAt 42 8)), sScope (inAt 42 8), 3, [], .none, .none, .none, (.str (.ofString "js.rematch") 441), none, (.ref 283), .none, 0⟩), #[]⟩) ::
((nat_lit 285), ⟨(.type "tuple"), none, (.seq #[(.str (.ofString "ignores_case") 725), (.str (.ofString "is_multiline") 726), (.str (.ofString "left") 727), (.str (.ofString "steps") 728), (.str (.ofString "text") 729), (.str (.ofString "waiting") 730)] 0), #[]⟩) ::
((nat_lit 286), ⟨(.type "dict"), none, (.dict #[⟨(PySem.PyData.keyHash P (.ofString "__module__")), (.str (.ofString "__module__") 598), (.str (.ofString "js.rematch") 441)⟩, ⟨(PySem.PyData.keyHash P (.ofString "__firstlineno__")), (.str (.ofString "__firstlineno__") 602), (.int 162 601)⟩, ⟨(PySem.PyData.keyHash P (.ofString "__init__")), (.str (.ofString "__init__") 614), (.ref 228)⟩, ⟨(PySem.PyData.keyHash P (.ofString "run")), (.str (.ofString "run") 628), (.ref 235)⟩, ⟨(PySem.PyData.keyHash P (.ofString "keep")), (.str (.ofString "keep") 636), (.ref 242)⟩, ⟨(PySem.PyData.keyHash P (.ofString "advance")), (.str (.ofString "advance") 652), (.ref 249)⟩, ⟨(PySem.PyData.keyHash P (.ofString "takes")), (.str (.ofString "takes") 662), (.ref 256)⟩, ⟨(PySem.PyData.keyHash P (.ofString "stands")), (.str (.ofString "stands") 674), (.ref 263)⟩, ⟨(PySem.PyData.keyHash P (.ofString "again")), (.str (.ofString "again") 686), (.ref 270)⟩, ⟨(PySem.PyData.keyHash P (.ofString "look")), (.str (.ofString "look") 700), (.ref 277)⟩, ⟨(PySem.PyData.keyHash P (.ofString "repeat")), (.str (.ofString "repeat") 724), (.ref 284)⟩, ⟨(PySem.PyData.keyHash P (.ofString "__static_attributes__")), (.str (.ofString "__static_attributes__") 731), (.ref 285)⟩, ⟨(PySem.PyData.keyHash P (.ofString "__dict__")), (.str (.ofString "__dict__") 733), (.ref 288)⟩, ⟨(PySem.PyData.keyHash P (.ofString "__weakref__")), (.str (.ofString "__weakref__") 735), (.ref 289)⟩, ⟨(PySem.PyData.keyHash P (.ofString "__doc__")), (.str (.ofString "__doc__") 736), .none⟩] 4), #[]⟩) ::
((nat_lit 287), ⟨(.type "type"), none, (.cls ⟨(.ofString "Search"), [(.type "object")], [(.ref 287), (.type "object")], 286, (.ofString "Search"), true, [], [], false, none, false⟩), #[none, none, (some (.str (.ofString "Search") 591)), (some (.str (.ofString "Search") 599)), (some (.builtin "object.__new__")), (some (.bool true))]⟩) ::
((nat_lit 288), ⟨(.type "getset_descriptor"), none, (.fields #[(.str (.ofString "__dict__") 732), (.ref 287), (.builtin "function.__dict__"), (.builtin "function.__dict__#set")]), #[]⟩) ::
((nat_lit 289), ⟨(.type "getset_descriptor"), none, (.fields #[(.str (.ofString "__weakref__") 734), (.ref 287), (.builtin "ExceptionGroup.__weakref__"), .none]), #[]⟩) ::
((nat_lit 292), ⟨(.type "tuple"), none, (.seq #[] 0), #[]⟩) ::
((nat_lit 294), ⟨(.type "tuple"), none, (.seq #[(.str (.ofString "code") 742), (.str (.ofString "text") 743), (.str (.ofString "at") 744), (.str (.ofString "count") 745), (.str (.ofString "ignores_case") 746), (.str (.ofString "is_multiline") 747), (.str (.ofString "limits") 748), (.str (.ofString "steps") 749), (.str (.ofString "loops") 750), (.str (.ofString "search") 751), (.str (.ofString "found") 752)] 0), #[]⟩) ::
((nat_lit 295), ⟨(.type "tuple"), none, (.seq #[] 0), #[]⟩) ::
((nat_lit 297), ⟨(.type "code"), none, (.fields #[(.str (.ofString "match_code") 739), (.str (.ofString "match_code") 740), (.str (.ofString "/claim/cut.py") 741), (.int 272 0), (.int 7 0), (.int 0 0), (.int 0 0), (.int 3 0), (.ref 292), (.bool true), (.int 181 0), (.ref 293), .none, (.ref 294), (.ref 295), (.ref 296), (.int 753 0), (.int 272 0), (.str (.ofString "/claim/cut.py") 754)]), #[]⟩) ::
((nat_lit 298), ⟨(.type "function"), none, (.func ⟨(.ofString "match_code"), (.ofString "match_code"), sArgs (stAt 43), .stmts (sBody (stAt 43)), sScope (stAt 43), 3, [], .none, .none, .none, (.str (.ofString "js.rematch") 441), none, (.ref 297), .none, 0⟩), #[]⟩) ::
((nat_lit 299), ⟨(.type "tuple"), none, (.seq #[] 0), #[]⟩) ::
((nat_lit 301), ⟨(.type "tuple"), none, (.seq #[(.str (.ofString "tree") 759), (.str (.ofString "text") 760), (.str (.ofString "at") 761), (.str (.ofString "flags") 762), (.str (.ofString "limits") 763)] 0), #[]⟩) ::
((nat_lit 302), ⟨(.type "tuple"), none, (.seq #[] 0), #[]⟩) ::
((nat_lit 304), ⟨(.type "code"), none, (.fields #[(.str (.ofString "match_at") 756), (.str (.ofString "match_at") 757), (.str (.ofString "/claim/cut.py") 758), (.int 277 0), (.int 5 0), (.int 0 0), (.int 0 0), (.int 3 0), (.ref 299), (.bool true), (.int 181 0), (.ref 300), .none, (.ref 301), (.ref 302), (.ref 303), (.int 764 0), (.int 277 0), (.str (.ofString "/claim/cut.py") 765)]), #[]⟩) ::
((nat_lit 305), ⟨(.type "function"), none, (.func ⟨(.ofString "match_at"), (.ofString "match_at"), sArgs (stAt 44), .stmts (sBody (stAt 44)), sScope (stAt 44), 3, [], .none, .none, .none, (.str (.ofString "js.rematch") 441), none, (.ref 304), .none, 0⟩), #[]⟩) ::
((nat_lit 306), ⟨(.type "tuple"), none, (.seq #[] 0), #[]⟩) ::
((nat_lit 308), ⟨(.type "tuple"), none, (.seq #[(.str (.ofString "tree") 770), (.str (.ofString "found") 771), (.str (.ofString "waiting") 772), (.str (.ofString "part") 773)] 0), #[]⟩) ::
((nat_lit 309), ⟨(.type "tuple"), none, (.seq #[] 0), #[]⟩) ::
((nat_lit 311), ⟨(.type "code"), none, (.fields #[(.str (.ofString "group_count") 767), (.str (.ofString "group_count") 768), (.str (.ofString "/claim/cut.py") 769), (.int 279 0), (.int 1 0), (.int 0 0), (.int 0 0), (.int 3 0), (.ref 306), (.bool true), (.int 181 0), (.ref 307), .none, (.ref 308), (.ref 309), (.ref 310), (.int 774 0), (.int 279 0), (.str (.ofString "/claim/cut.py") 775)]), #[]⟩) ::
((nat_lit 312), ⟨(.type "function"), none, (.func ⟨(.ofString "group_count"), (.ofString "group_count"), sArgs (stAt 45), .stmts (sBody (stAt 45)), sScope (stAt 45), 3, [], .none, .none, .none, (.str (.ofString "js.rematch") 441), none, (.ref 311), .none, 0⟩), #[]⟩) ::
((nat_lit 313), ⟨(.type "tuple"), none, (.seq #[] 0), #[]⟩) ::
((nat_lit 315), ⟨(.type "tuple"), none, (.seq #[(.str (.ofString "deal") 782), (.str (.ofString "deep") 783), (.str (.ofString "kind") 784), (.str (.ofString "both") 785)] 0), #[]⟩) ::
((nat_lit 316), ⟨(.type "tuple"), none, (.seq #[] 0), #[]⟩) ::
((nat_lit 318), ⟨(.type "code"), none, (.fields #[(.str (.ofString "_law_term") 779), (.str (.ofString "_law_term") 780), (.str (.ofString "/claim/cut.py") 781), (.int 289 0), (.int 2 0), (.int 0 0), (.int 0 0), (.int 3 0), (.ref 313), (.bool true), (.int 181 0), (.ref 314), .none, (.ref 315), (.ref 316), (.ref 317), (.int 786 0), (.int 289 0), (.str (.ofString "/claim/cut.py") 787)]), #[]⟩) ::
((nat_lit 319), ⟨(.type "function"), none, (.func ⟨(.ofString "_law_term"), (.ofString "_law_term"), sArgs (stAt 47), .stmts (sBody (stAt 47)), sScope (stAt 47), 3, [], .none, .none, .none, (.str (.ofString "law_sa0370_02") 777), none, (.ref 318), .none, 0⟩), #[]⟩) ::
((nat_lit 320), ⟨(.type "tuple"), none, (.seq #[] 0), #[]⟩) ::
((nat_lit 322), ⟨(.type "tuple"), none, (.seq #[(.str (.ofString "part") 792), (.str (.ofString "text") 793)] 0), #[]⟩) ::
((nat_lit 323), ⟨(.type "tuple"), none, (.seq #[] 0), #[]⟩) ::
((nat_lit 325), ⟨(.type "code"), none, (.fields #[(.str (.ofString "_law_whole") 789), (.str (.ofString "_law_whole") 790), (.str (.ofString "/claim/cut.py") 791), (.int 298 0), (.int 2 0), (.int 0 0), (.int 0 0), (.int 3 0), (.ref 320), (.bool true), (.int 181 0), (.ref 321), .none, (.ref 322), (.ref 323), (.ref 324), (.int 794 0), (.int 298 0), (.str (.ofString "/claim/cut.py") 795)]), #[]⟩) ::
((nat_lit 326), ⟨(.type "function"), none, (.func ⟨(.ofString "_law_whole"), (.ofString "_law_whole"), sArgs (stAt 48), .stmts (sBody (stAt 48)), sScope (stAt 48), 3, [], .none, .none, .none, (.str (.ofString "law_sa0370_02") 777), none, (.ref 325), .none, 0⟩), #[]⟩) ::
((nat_lit 327), ⟨(.type "tuple"), none, (.seq #[] 0), #[]⟩) ::
((nat_lit 330), ⟨(.type "code"), none, (.fields #[(.str (.ofString "law") 797), (.str (.ofString "law") 798), (.str (.ofString "/claim/cut.py") 799), (.int 300 0), (.int 1 0), (.int 0 0), (.int 0 0), (.int 3 0), (.ref 327), (.bool true), (.int 181 0), (.ref 328), .none, .none, .none, (.ref 329), (.int 800 0), (.int 300 0), (.str (.ofString "/claim/cut.py") 801)]), #[]⟩) ::
((nat_lit 331), ⟨(.type "function"), none, (.func ⟨(.ofString "law"), (.ofString "law"), sArgs (stAt 49), .stmts (sBody (stAt 49)), sScope (stAt 49), 3, [], .none, .none, .none, (.str (.ofString "law_sa0370_02") 777), none, (.ref 330), .none, 0⟩), #[]⟩) :: []
noncomputable def view : Program := PySem.W.view PySem.Challenge.rw_sa0370_02.row.toRowW.1 [1, 2, 4, 5, 6, 7, 8, 9, 10, 12, 13, 14, 15, 16, 18, 19, 21, 22, 23, 24, 25, 26, 27, 28, 29, 30, 31, 32, 33, 34, 35, 36, 37, 38, 39, 40, 41, 42, 43, 44, 45, 47, 48, 49]
noncomputable def lawD : DefRec := ⟨(.ofString "law"), sArgs (stAt 49), sBody (stAt 49), sScope (stAt 49), sPos (stAt 49)⟩
noncomputable def LawT : Prop := WalkO view [Str.ofString "LINE_ENDS", Str.ofString "GREAT", Str.ofString "TURNS", Str.ofString "GREAT_ALONE", Str.ofString "SMALL_ALONE", Str.ofString "GREAT_WIDE", Str.ofString "Limits", Str.ofString "MOST_KEPT"]
  (XL view [(Str.ofString "MOST_KEPT", WData.int 100000000)]) (kHook heap [2, 3, 15, 16, 18, 19, 21, 22, 23, 24, 25, 26, 27, 28, 29, 30, 31, 32, 33, 34, 35, 36, 37, 38, 39, 40, 41, 42, 43, 44, 45, 46, 47, 48, 49, 50, 51, 53, 54, 56, 57, 58, 60, 61, 63, 64, 65, 66, 67, 68, 69, 70, 72, 73, 75, 76, 77, 79, 80, 82, 83, 84, 86, 87, 89, 90, 91, 94, 95, 96, 103, 105, 106, 108, 109, 110, 111, 112, 113, 123, 124, 126, 127, 129, 130, 131, 132, 133, 134, 135, 145, 147, 148, 150, 151, 152, 154, 155, 157, 158, 159, 161, 162, 164, 165, 166, 168, 169, 171, 172, 173, 175, 176, 178, 179, 180, 182, 183, 185, 186, 187, 189, 190, 192, 193, 194, 195, 196, 197, 198, 201, 203, 204, 206, 207, 208, 210, 211, 213, 214, 222, 224, 225, 227, 228, 229, 231, 232, 234, 235, 236, 238, 239, 241, 242, 243, 245, 246, 248, 249, 250, 252, 253, 255, 256, 257, 259, 260, 262, 263, 264, 266, 267, 269, 270, 271, 273, 274, 276, 277, 278, 280, 281, 283, 284, 285, 286, 287, 288, 289, 292, 294, 295, 297, 298, 299, 301, 302, 304, 305, 306, 308, 309, 311, 312, 313, 315, 316, 318, 319, 320, 322, 323, 325, 326, 327, 330, 331] (fun _ => by kernel_rfl)).says PySem.Challenge.rw_sa0370_02.row.toRowW lawD [] (fun f vs => call f vs)
end
section
open PySem.Calls PySem.Spec

noncomputable abbrev tupO (vs : List Value) (n : Nat) : Obj := { cls := .type "tuple", data := .seq vs.toArray n }

section
variable {prog : Program} {w : World} {A : Around} {E : Value → Shared → Prop} {s : Shared} {h₀ : Heap} {L : Addr} {m : Str → Option Value} {news : List (Addr × Obj)}

theorem places_nat (a b : Nat) (hab : a ≤ b) : Builtin.Slice.slicePlaces (a : Int) (b : Int) 1 = b - a := by
  unfold Builtin.Slice.slicePlaces
  have h1 : (1 : Int) > 0 := by lia -abstractProof
  simp only [h1, if_true, Int.ediv_one]
  split <;> lia -abstractProof

theorem wp_part {v : Value} {k : Option Int} {Q : Option Int → Shared → Prop} (hv : IsPart v k) (h : Q k s) : wpAny (model prog w) A (Builtin.Slice.slicePartIndex v) Q E s := by
  cases hv with
  | none => exact slicePart_none h
  | int i t => exact slicePart_int h

theorem sliceApplied_gen {sl : Addr} {vl vu : Value} {lo hi : Option Int} {a b n : Nat} {Q : Int × Int × Nat → Shared → Prop} (hs : s.heap.IsSliceOf sl vl vu .none) (pl : IsPart vl lo) (pu : IsPart vu hi)
    (e : Builtin.Slice.sliceAdjust lo hi 1 (n : Int) = ((a : Int), (b : Int))) (hab : a ≤ b) (h : Q ((a : Int), 1, b - a) s) :
    wpAny (model prog w) A (Builtin.Slice.sliceApplied (.ref sl) (pure (n : Int))) Q E s := by
  obtain ⟨os, hos, hcs, hds⟩ := id hs
  unfold Builtin.Slice.sliceApplied Builtin.Slice.sliceFields
  refine wpAny_bind (wpAny_bind (wpAny_field hos hds (x := vl) rfl (wpAny_bind (wpAny_field hos hds (x := vu) rfl (wpAny_bind (wpAny_field hos hds (x := .none) rfl (wpAny_pure ?_)))))))
  refine wpAny_bind (slicePart_none ?_)
  show wpAny _ _ (if ((1 : Int) == 0) = true then _ else _) _ _ s
  rw [if_neg (by decide)]
  refine wpAny_bind (wp_part pl (wpAny_bind (wp_part pu (wpAny_bind (wpAny_pure ?_)))))
  show wpAny _ _ (match Builtin.Slice.sliceAdjust lo hi 1 (n : Int) with | (lo, hi) => pure (lo, (1 : Int), Builtin.Slice.slicePlaces lo hi 1)) _ _ s
  rw [e]
  show wpAny _ _ (pure ((a : Int), (1 : Int), Builtin.Slice.slicePlaces (a : Int) (b : Int) 1)) _ _ s
  rw [places_nat a b hab]
  exact wpAny_pure h

theorem pick_gen (xs : Array Value) (a n : Nat) : ((List.range n).filterMap fun (k : Nat) => xs[((a : Int) + (k : Int) * 1).toNat]?).toArray = ((xs.toList.drop a).take n).toArray := by
  have e : (fun (k : Nat) => xs[((a : Int) + (k : Int) * 1).toNat]?) = fun k => xs[a + k]? := by
    funext k
    have : ((a : Int) + (k : Int) * 1).toNat = a + k := by lia -abstractProof
    rw [this]
  rw [e]
  have := pick_run xs a n
  rw [List.filterMap_map] at this
  have e2 : ((fun x => xs[x]?) ∘ fun x => a + x) = fun k => xs[a + k]? := rfl
  rw [e2] at this
  rw [this]

theorem getItem_tuple_slice {t sl : Addr} {items : Array Value} {vl vu : Value} {lo hi : Option Int} {a b : Nat} {Q : Value → Shared → Prop} (ht : IsTup s.heap t items) (hs : s.heap.IsSliceOf sl vl vu .none) (pl : IsPart vl lo) (pu : IsPart vu hi)
    (e : Builtin.Slice.sliceAdjust lo hi 1 (items.size : Int) = ((a : Int), (b : Int))) (hab : a ≤ b) (hb : b ≤ items.size) (hno : b - a < items.size)
    (h : Q (.ref s.heap.objs.size) { s with heap := s.heap.push { cls := .type "tuple", data := .seq ((items.toList.drop a).take (b - a)).toArray } })
    (hsz : items.size ≤ sizeLine := by size_fits) : wpAny (model prog w) A (getItem (.ref t) (.ref sl)) Q E s := by
  have hdrop : sizeOk (.seq ((items.toList.drop a).take (b - a)).toArray) := by
    show ((items.toList.drop a).take (b - a)).toArray.size ≤ sizeLine
    rw [List.size_toArray, List.length_take]
    lia -abstractProof
  obtain ⟨os, hos, hcs, hds⟩ := id hs
  have hTs : s.TypeIs (.ref sl) "slice" := ⟨os, hos, hcs⟩
  unfold getItem
  try with_reducible refine wpAny_holding ?_
  first | refine wpAny_bind (wpAny_pure ?_) | skip
  refine wpAny_bind (wpAny_sequenceKey ht.typeIs (by decide) ?_)
  refine wpAny_bind (wpAny_callSpecial?_slot (name := Str.ofString "__getitem__") ht.typeIs slot_tuple_getitem
    (wpAny_call_entry slot_tuple_getitem ht.typeIs entry_tuple_getitem ?_ (args_tuple_getitem _ _)))
  show wpAny _ _ (Builtin.Tuple.tupleItemsOf (.ref t) >>= _) _ _ s
  refine wpAny_bind (tupleItemsOf_ ht ?_)
  refine wpAny_bind (wpAny_typeOf hTs ?_)
  rw [if_pos (by decide)]
  refine wpAny_bind (sliceApplied_gen hs pl pu e hab ?_)
  have hno' : ¬ (((a : Int) == 0 && (1 : Int) == 1 && (b - a) == items.size) = true) := by
    have : ((b - a) == items.size) = false := by rw [beq_eq_false_iff_ne]; lia -abstractProof
    rw [this]; simp
  show wpAny _ _ (if ((a : Int) == 0 && (1 : Int) == 1 && (b - a) == items.size) = true then _ else _) _ _ s
  rw [if_neg hno', pick_gen items a (b - a)]
  first
    | exact wpAny_bind (m := Builtin.Tuple.tupleExact _) (wpAny_newObj_type (wpAny_pure ⟨_, rfl, wpAny_pure h⟩) hdrop)
    | exact wpAny_bind (m := Builtin.Tuple.tupleExact _) (wpAny_newObj_type (wpAny_bind (wpAny_pure (wpAny_pure ⟨_, rfl, wpAny_pure h⟩))) hdrop)
    | exact wpAny_bind (wpAny_bind (m := Builtin.Tuple.tupleExact _) (wpAny_newObj_type (wpAny_pure (wpAny_pure ⟨_, rfl, wpAny_pure h⟩)) hdrop))
    | exact wpAny_bind (wpAny_bind (m := Builtin.Tuple.tupleExact _) (wpAny_newObj_type (wpAny_pure ⟨_, rfl, wpAny_pure h⟩) hdrop))

theorem slice_tup {value slice : Expr} {t : Addr} {vs : List Value} {n : Nat} {vl vu : Value} {lo hi : Option Int} {a b : Nat} {Q : Value → Shared → Prop}
    (F : Fr h₀ L s.heap m) (N : News h₀ L s.heap news) (ht : (t, tupO vs n) ∈ news) (pl : IsPart vl lo) (pu : IsPart vu hi)
    (e : Builtin.Slice.sliceAdjust lo hi 1 (vs.length : Int) = ((a : Int), (b : Int))) (hab : a ≤ b) (hb : b ≤ vs.length) (hno : b - a < vs.length)
    (h : ∀ D h', Fr h₀ L h' m → News h₀ L h' ((D, tupO ((vs.drop a).take (b - a)) 0) :: news) → (∀ p ∈ news, p.1 < D) → Q (.ref D) { s with heap := h' })
    (hs : subscripted slice false (.ref t) (.ref s.heap.objs.size) = operate [.ref s.heap.objs.size, .ref t] (getItem (.ref t) (.ref s.heap.objs.size)))
    (hg : ∀ r, letTemporaryGo value (.ref t) r = pure ())
    (hsz : vs.length ≤ sizeLine) :
    wpAny (model prog w) A (subscriptTail value slice (.ref t) (.ref s.heap.objs.size)) Q E { s with heap := s.heap.push { cls := .type "slice", data := .fields #[vl, vu, .none] } } := by
  have ht' : IsTup s.heap t vs.toArray := ⟨_, (N _ ht).1, rfl, n, rfl⟩
  have ht'' : IsTup (s.heap.push { cls := .type "slice", data := .fields #[vl, vu, .none] }) t vs.toArray := ht'.keeps fun _ _ e => Heap.get?_push_of_some _ e
  refine subscriptTail_ops (s := { s with heap := s.heap.push { cls := .type "slice", data := .fields #[vl, vu, .none] } }) ht''.typeIs slot_tuple_getitem.lookup
    (getItem_tuple_slice (a := a) (b := b) ht'' (Heap.IsSliceOf.new ..) pl pu (by rw [List.size_toArray]; exact e) hab (by rw [List.size_toArray]; exact hb) (by rw [List.size_toArray]; exact hno) ?_ (by rw [List.size_toArray]; exact hsz)) hs hg
  have N1 := News.push (F.push { cls := .type "slice", data := .fields #[vl, vu, .none] }) (N.grown fun _ _ e => Heap.get?_push_of_some _ e) { cls := .type "tuple", data := .seq ((vs.drop a).take (b - a)).toArray }
  rw [Heap.size_push] at N1
  show Q (.ref (s.heap.push _).objs.size) _
  rw [Heap.size_push]
  exact h _ _ ((F.push _).push _) N1 (fun p hp => Nat.lt_succ_of_lt (Heap.lt_size (N p hp).1))

theorem len_S {T : List Nat} {t : Tok} {Q : Value → Shared → Prop} (hl : T.length ≤ 1000) (h : Q (.int T.length (s.toks + 1)) { s with toks := s.toks + 1 + 1 }) : wpAny (model prog w) A (call (.builtin "len") [.str ⟨T.toArray⟩ t]) Q E s :=
  PyProof.Rows.len_str (x := ⟨T.toArray⟩) (by show ¬ ((T.toArray.size : Nat) : Int) ≥ 2 ^ 63; rw [List.size_toArray]; lia -abstractProof) (by show Q (.int ((T.toArray.size : Nat) : Int) _) _; rw [List.size_toArray]; exact h)
theorem item_S {value slice : Expr} {T : List Nat} {t u : Tok} {i c : Nat} {Q : Value → Shared → Prop} (hc : T[i]? = some c) (hl : T.length ≤ 1000) (h : Q (.str ⟨#[c]⟩ s.toks) { s with toks := s.toks + 1 })
    (hs : subscripted slice false (.str ⟨T.toArray⟩ t) (.int i u) = operate [.str ⟨T.toArray⟩ t, .int i u] (getItem (.str ⟨T.toArray⟩ t) (.int i u)))
    (ht : ∀ r, letTemporaryGo value (.str ⟨T.toArray⟩ t) r = pure ()) :
    wpAny (model prog w) A (subscriptTail value slice (.str ⟨T.toArray⟩ t) (.int i u)) Q E s := by
  have hlt : i < T.length := (List.getElem?_eq_some_iff.mp hc).1
  have hlen : (⟨T.toArray⟩ : Str).length = T.length := List.size_toArray
  refine item_str (x := ⟨T.toArray⟩) (by simp [fitsSsize]; lia -abstractProof) (by rw [hlen]; lia -abstractProof) (by rw [hlen]; lia -abstractProof) (fun _ => ?_) hs ht
  have e : Txt.item ⟨T.toArray⟩ (i : Int) = ⟨#[c]⟩ := by
    have hq : seqIndex? (i : Int) T.length = some i := by
      unfold seqIndex?
      simp
      lia -abstractProof
    unfold Txt.item Txt.charAt
    rw [hlen, hq]
    simp [hc]
  rw [e]; exact h
theorem last_app : ∀ (l : List Value) (y : Value), kl_last (l ++ [y]) = some (l, y)
  | [], _ => rfl
  | x :: l, y => by
    show (match kl_last (l ++ [y]) with | some (p, y) => some (x :: p, y) | none => some ([], x)) = _
    rw [last_app l y]
theorem pop_L {D : Addr} {vs : List Value} {v : Value} {n : Nat} {news' : List (Addr × Obj)} {Q : Value → Shared → Prop} (F : Fr h₀ L s.heap m) (N : News h₀ L s.heap news) (U : Upd D (listOf (vs ++ [v]).toArray n) (listOf vs.toArray (n + 1)) news news') (hz : vs.length ≤ 100000)
    (h : ∀ h', Fr h₀ L h' m → News h₀ L h' news' → Q v { s with heap := h' }) : wpAny (model prog w) A (call (.builtin "list.pop") [.ref D]) Q E s :=
  kl_pop F N (last_app vs v) U (by show (vs ++ [v]).length ≤ _; rw [List.length_append, sizeLine_eq]; show vs.length + 1 ≤ _; lia -abstractProof) h
theorem slice_L {value slice : Expr} {t : Addr} {vs : List Value} {n b : Nat} {ub : Tok} {Q : Value → Shared → Prop} (F : Fr h₀ L s.heap m) (N : News h₀ L s.heap news) (hl : (t, listOf vs.toArray n) ∈ news) (hz : vs.length ≤ 100000)
    (h : ∀ D h', Fr h₀ L h' m → News h₀ L h' ((D, listOf (vs.take b).toArray 0) :: news) → (∀ p ∈ news, p.1 < D) → Q (.ref D) { s with heap := h' })
    (hs : subscripted slice false (.ref t) (.ref s.heap.objs.size) = operate [.ref s.heap.objs.size, .ref t] (getItem (.ref t) (.ref s.heap.objs.size))) (hg : ∀ r, letTemporaryGo value (.ref t) r = pure ()) :
    wpAny (model prog w) A (subscriptTail value slice (.ref t) (.ref s.heap.objs.size)) Q E { s with heap := s.heap.push { cls := .type "slice", data := .fields #[.none, .int (b : Int) ub, .none] } } := by
  refine kmk_slice (its := vs.toArray) F N ⟨_, (N _ hl).1, rfl, n, rfl⟩ .none (.int _ _) (fun D h' F' N' l1 => h D h' F' ?_ l1) hs hg (by rw [List.size_toArray, sizeLine_eq]; lia -abstractProof)
  rw [slicePick_upto'] at N'
  simpa using N'
theorem item_T {value slice : Expr} {t : Addr} {vs : List Value} {n : Nat} {k : Int} {u : Tok} {j : Nat} {v : Value} {Q : Value → Shared → Prop} (N : News h₀ L s.heap news) (ht : (t, tupO vs n) ∈ news)
    (hlo : -(2 ^ 63) ≤ k) (hhi : k < 2 ^ 63) (hj : seqIndex? k vs.length = some j) (hx : vs[j]? = some v) (h : Q v s)
    (hs : subscripted slice false (.ref t) (.int k u) = operate [.ref t, .int k u] (getItem (.ref t) (.int k u))) :
    wpAny (model prog w) A (subscriptTail value slice (.ref t) (.int k u)) Q E s := item_tupleT (⟨_, (N _ ht).1, rfl, n, rfl⟩ : IsTup s.heap t vs.toArray) hlo hhi hj hx h hs
theorem item_TN {value slice : Expr} {t : Addr} {vs : List Value} {n k : Nat} {u : Tok} {v : Value} {Q : Value → Shared → Prop} (N : News h₀ L s.heap news) (ht : (t, tupO vs n) ∈ news)
    (hx : vs[k]? = some v) (hz : vs.length ≤ 100000) (h : Q v s)
    (hs : subscripted slice false (.ref t) (.int k u) = operate [.ref t, .int k u] (getItem (.ref t) (.int k u))) :
    wpAny (model prog w) A (subscriptTail value slice (.ref t) (.int k u)) Q E s := by
  have hlt : k < vs.length := (List.getElem?_eq_some_iff.mp hx).1
  refine item_T (j := k) N ht (by lia -abstractProof) (by lia -abstractProof) ?_ hx h hs
  unfold seqIndex?
  simp
  lia -abstractProof
theorem item_LN {value slice : Expr} {t : Addr} {vs : List Value} {n k : Nat} {u : Tok} {v : Value} {Q : Value → Shared → Prop} (N : News h₀ L s.heap news) (ht : (t, listOf vs.toArray n) ∈ news)
    (hx : vs[k]? = some v) (hz : vs.length ≤ 100000) (h : Q v s)
    (hs : subscripted slice false (.ref t) (.int k u) = operate [.ref t, .int k u] (getItem (.ref t) (.int k u)))
    (hg : ∀ r, letTemporaryGo value (.ref t) r = pure ()) :
    wpAny (model prog w) A (subscriptTail value slice (.ref t) (.int k u)) Q E s := by
  have hlt : k < vs.length := (List.getElem?_eq_some_iff.mp hx).1
  exact item_list (items := vs.toArray) (k := (k : Int)) ⟨_, (N _ ht).1, rfl, n, rfl⟩ (by lia -abstractProof) (by lia -abstractProof) (by simpa using hx) h hs hg
theorem add_tup {t b : Addr} {vs ws : List Value} {n1 n2 : Nat} {Q : Value → Shared → Prop} (F : Fr h₀ L s.heap m) (N : News h₀ L s.heap news) (ht : (t, tupO vs n1) ∈ news) (hb : (b, tupO ws n2) ∈ news)
    (h : ∀ D n h' ext, Fr h₀ L h' m → News h₀ L h' (ext ++ news) → (D, tupO (vs ++ ws) n) ∈ ext ++ news → (∀ p ∈ ext, ∃ vs n, p.2 = tupO vs n) → Q (.ref D) { s with heap := h' })
    (hsz : vs.length + ws.length ≤ sizeLine) :
    wpAny (model prog w) A (binaryOp .Add (.ref t) (.ref b)) Q E s := by
  refine add_tuples F N ⟨_, (N _ ht).1, rfl, n1, rfl⟩ ⟨_, (N _ hb).1, rfl, n2, rfl⟩ (fun e => ?_) (fun _ e => ?_) (fun _ _ h' F' N' => ?_) hsz
  · subst e
    exact h b n2 s.heap [] F N hb (fun _ hq => nomatch hq)
  · subst e
    refine h t n1 s.heap [] F N (by rw [List.append_nil]; exact ht) (fun _ hq => nomatch hq)
  · refine h _ 0 h' [_] F' N' (.head _) (fun q hq => ?_)
    rw [List.mem_singleton.mp hq]; exact ⟨_, _, rfl⟩

theorem append_L {D : Addr} {vs : List Value} {n : Nat} {x : Value} {news' : List (Addr × Obj)} {Q : Value → Shared → Prop} (F : Fr h₀ L s.heap m) (N : News h₀ L s.heap news) (U : Upd D (listOf vs.toArray n) (listOf (vs ++ [x]).toArray (n + 1)) news news')
    (h : ∀ h', Fr h₀ L h' m → News h₀ L h' news' → Q .none { s with heap := h' }) (hsz : vs.length ≤ 100000) : wpAny (model prog w) A (call (.builtin "list.append") [.ref D, x]) Q E s := by
  have e : vs.toArray.push x = (vs ++ [x]).toArray := by simp
  exact append_K F N (by rw [e]; exact U) h (by rw [List.size_toArray, sizeLine_eq]; lia -abstractProof)
theorem set_L {D : Addr} {vs : List Value} {n : Nat} {k : Int} {t : Tok} {x : Value} {news' : List (Addr × Obj)} {Q : Unit → Shared → Prop} (F : Fr h₀ L s.heap m) (N : News h₀ L s.heap news) (U : Upd D (listOf vs.toArray n) (listOf (vs.set k.toNat x).toArray n) news news')
    (h0 : 0 ≤ k) (h1 : k < vs.length) (hfit : k < 2 ^ 63) (h : ∀ h', Fr h₀ L h' m → News h₀ L h' news' → Q () { s with heap := h' }) :
    wpAny (model prog w) A (setItem (.ref D) (.int k t) x) Q E s := by
  obtain ⟨pre, post, rfl, rfl, a, b⟩ := U.split
  have z := N (D, listOf vs.toArray n) (List.mem_append.mpr (.inr (.head _)))
  have hs : vs.toArray.size = vs.length := List.size_toArray
  have hj : k.toNat < vs.length := by lia -abstractProof
  refine ki_setAt z.1 h0 hfit (by lia -abstractProof) (h _ (F.change (Heap.SameBut.update ..) z.2.1 z.2.2) (ki_turn _ N a b ?_ ?_))
  · apply Array.toList_inj.mp
    simp
  · simp
theorem len_L {l : Addr} {vs : List Value} {n : Nat} {Q : Value → Shared → Prop} (N : News h₀ L s.heap news) (hl : (l, listOf vs.toArray n) ∈ news) (hfit : vs.length ≤ 100000)
    (h : Q (.int vs.length (s.toks + 1)) { s with toks := s.toks + 1 + 1 }) : wpAny (model prog w) A (call (.builtin "len") [.ref l]) Q E s :=
  len_list (items := vs.toArray) ⟨_, (N _ hl).1, rfl, n, rfl⟩ (by rw [List.size_toArray]; lia -abstractProof) (by rw [List.size_toArray]; exact h)
theorem len_T {l : Addr} {vs : List Value} {n : Nat} {Q : Value → Shared → Prop} (N : News h₀ L s.heap news) (hl : (l, tupO vs n) ∈ news) (hfit : vs.length ≤ 100000)
    (h : Q (.int vs.length (s.toks + 1)) { s with toks := s.toks + 1 + 1 }) : wpAny (model prog w) A (call (.builtin "len") [.ref l]) Q E s :=
  len_tuple (items := vs.toArray) ⟨_, (N _ hl).1, rfl, n, rfl⟩ (by rw [List.size_toArray]; lia -abstractProof) (by rw [List.size_toArray]; exact h)
end
mutual
inductive TIn (news : List (Addr × Obj)) : Value → Dat → Prop
  | none : TIn news Value.none Dat.none
  | bool (b : Bool) : TIn news (Value.bool b) (Dat.bool b)
  | int (i : Int) (t : Tok) : TIn news (Value.int i t) (Dat.int i)
  | str (x : Str) (t : Tok) : TIn news (Value.str x t) (Dat.str x)
  | tuple {a : Addr} {vs : List Value} {n : Nat} {ds : List Dat} : (a, tupO vs n) ∈ news → TAll news vs ds → TIn news (Value.ref a) (Dat.tuple ds)
inductive TAll (news : List (Addr × Obj)) : List Value → List Dat → Prop
  | nil : TAll news [] []
  | cons {v : Value} {vs : List Value} {d : Dat} {ds : List Dat} : TIn news v d → TAll news vs ds → TAll news (v :: vs) (d :: ds)
end
noncomputable def TSub (l l' : List (Addr × Obj)) : Prop := ∀ p ∈ l, (∃ vs n, p.2 = tupO vs n) → p ∈ l'
theorem TIn.monoT {news news' : List (Addr × Obj)} (hs : ∀ p ∈ news, (∃ vs n, p.2 = tupO vs n) → p ∈ news') {v : Value} {d : Dat} (h : TIn news v d) : TIn news' v d :=
  h.rec (motive_1 := fun v d _ => TIn news' v d) (motive_2 := fun vs ds _ => TAll news' vs ds) .none (fun b => .bool b) (fun i t => .int i t) (fun x t => .str x t) (fun h _ r => .tuple (hs _ h ⟨_, _, rfl⟩) r) .nil fun _ _ h r => .cons h r
theorem TIn.mono {news news' : List (Addr × Obj)} (hs : TSub news news') {v : Value} {d : Dat} (h : TIn news v d) : TIn news' v d := h.monoT hs
theorem TAll.mono {news news' : List (Addr × Obj)} (hs : TSub news news') {vs : List Value} {ds : List Dat} (h : TAll news vs ds) : TAll news' vs ds :=
  h.rec (motive_1 := fun v d _ => TIn news' v d) (motive_2 := fun vs ds _ => TAll news' vs ds) .none (fun b => .bool b) (fun i t => .int i t) (fun x t => .str x t) (fun h _ r => .tuple (hs _ h ⟨_, _, rfl⟩) r) .nil fun _ _ h r => .cons h r
section
variable {l l' : List (Addr × Obj)} {p : Addr × Obj}
theorem tsub_refl : TSub l l := fun _ h _ => h
end
section
variable {im im' : List (Addr × Obj)} {v : Value} {vs ws : List Value} {d : Dat} {ds es : List Dat}
theorem TAll.length (h : TAll im vs ds) : vs.length = ds.length := by
  induction vs generalizing ds with
  | nil => cases h; rfl
  | cons v vs ih =>
    cases h with
    | cons _ r => rw [List.length_cons, List.length_cons, ih r]
theorem TAll.append (h : TAll im vs ds) (k : TAll im ws es) : TAll im (vs ++ ws) (ds ++ es) := by
  induction vs generalizing ds with
  | nil => cases h; exact k
  | cons v vs ih =>
    cases h with
    | cons h r => exact .cons h (ih r)
theorem TAll.get (h : TAll im vs ds) {k : Nat} (hk : ds[k]? = some d) : ∃ v, vs[k]? = some v ∧ TIn im v d := by
  induction vs generalizing ds k with
  | nil => cases h; simp at hk
  | cons v vs ih =>
    cases h with
    | cons h r =>
      cases k with
      | zero => cases hk; exact ⟨v, rfl, h⟩
      | succ k => exact ih r hk
theorem dat_tuple (h : TIn im v (.tuple ds)) : ∃ a vs n, v = .ref a ∧ (a, tupO vs n) ∈ im ∧ TAll im vs ds := by
  cases h with
  | tuple hm ha => exact ⟨_, _, _, rfl, hm, ha⟩
theorem dat_int {i : Int} (h : TIn im v (.int i)) : ∃ t, v = .int i t := by cases h; exact ⟨_, rfl⟩
theorem dat_str {x : Str} (h : TIn im v (.str x)) : ∃ t, v = .str x t := by cases h; exact ⟨_, rfl⟩
theorem dat_bool {b : Bool} (h : TIn im v (.bool b)) : v = .bool b := by cases h; rfl
theorem dat_none (h : TIn im v .none) : v = .none := by cases h; rfl
theorem dat_nil (h : TAll im vs []) : vs = [] := by cases h; rfl
theorem dat_cons (h : TAll im vs (d :: ds)) : ∃ v ws, vs = v :: ws ∧ TIn im v d ∧ TAll im ws ds := by
  cases h with
  | cons a b => exact ⟨_, _, rfl, a, b⟩
theorem off_append {a b : List (Addr × Obj)} {adr : List Addr} (h : OwnOff a adr) (k : OwnOff b adr) : OwnOff (a ++ b) adr := fun p hp => (List.mem_append.mp hp).elim (h p) (k p)
end

inductive Pull (c : Addr × Obj) : List (Addr × Obj) → List (Addr × Obj) → Prop
  | head {r : List (Addr × Obj)} : Pull c (c :: r) r
  | tail {p : Addr × Obj} {r r' : List (Addr × Obj)} : Pull c r r' → Pull c (p :: r) (p :: r')
  | app {a r r' : List (Addr × Obj)} : Pull c r r' → Pull c (a ++ r) (a ++ r')
theorem Pull.mem {c : Addr × Obj} {nw r : List (Addr × Obj)} (h : Pull c nw r) : ∀ p ∈ c :: r, p ∈ nw := by
  induction h with
  | head => exact fun _ h => h
  | tail _ ih =>
    intro p hp
    rcases List.mem_cons.mp hp with rfl | hp
    · exact .tail _ (ih _ (.head _))
    · rcases List.mem_cons.mp hp with rfl | hp
      · exact .head _
      · exact .tail _ (ih _ (.tail _ hp))
  | app _ ih =>
    intro p hp
    rcases List.mem_cons.mp hp with rfl | hp
    · exact List.mem_append.mpr (.inr (ih _ (.head _)))
    · rcases List.mem_append.mp hp with hp | hp
      · exact List.mem_append.mpr (.inl hp)
      · exact List.mem_append.mpr (.inr (ih _ (.tail _ hp)))
theorem set1 {ds A : List Dat} {S x : Dat} {i : Nat} (hi : i = ds.length) : (ds ++ x :: A).set i S = ds ++ S :: A := by
  subst hi
  rw [List.set_append_right _ _ (Nat.le_refl _), Nat.sub_self]
  rfl
end
section
open PySem.Calls PySem.Spec

noncomputable def OffI (I : Addr) (l : List (Addr × Obj)) : Prop := ∀ p ∈ l, p.1 ≠ I
theorem OffI.at {I a : Addr} {o : Obj} {l : List (Addr × Obj)} (h : OffI I l) (m : (a, o) ∈ l) : a ≠ I := h _ m
theorem OffI.sub {I : Addr} {l l' : List (Addr × Obj)} (h : OffI I l) (s : ∀ p ∈ l', p ∈ l) : OffI I l' := fun p hp => h p (s p hp)
theorem offI_app {I : Addr} {l l' : List (Addr × Obj)} (h : OffI I l) (k : OffI I l') : OffI I (l ++ l') := fun q hq => (List.mem_append.mp hq).elim (h q) (k q)
theorem cls_neL {a b c : Value} (h : a = b) (k : b ≠ c) : a ≠ c := h ▸ k
noncomputable def NoTup (o : Obj) : Prop := ∀ vs n, o ≠ tupO vs n
theorem notup_cls {o : Obj} (h : o.cls ≠ .type "tuple") : NoTup o := fun _ _ e => h (by rw [e])
theorem notup_cell {o : Obj} {v : Option Value} (h : o.data = .cell v) : NoTup o := fun _ _ e => by rw [e] at h; cases h
theorem ne_obj {h₀ h : Heap} {L a b : Addr} {o o' : Obj} {nw : List (Addr × Obj)} (N : News h₀ L h nw) (ha : (a, o) ∈ nw) (hb : (b, o') ∈ nw) (hc : o ≠ o') : a ≠ b := by
  rintro rfl
  exact hc (Option.some.inj ((N _ ha).1.symm.trans (N _ hb).1))
noncomputable def Tups (l : List (Addr × Obj)) : Prop := ∀ p ∈ l, ∃ vs n, p.2 = tupO vs n
theorem Tups.cls {l : List (Addr × Obj)} (h : Tups l) {p : Addr × Obj} (hp : p ∈ l) : p.2.cls = .type "tuple" := by
  obtain ⟨_, _, e⟩ := h p hp
  rw [e]
theorem tups_nil : Tups [] := fun _ h => nomatch h
theorem tups_cons {a : Addr} {vs : List Value} {n : Nat} {l : List (Addr × Obj)} (h : Tups l) : Tups ((a, tupO vs n) :: l) := fun p hp => by
  rcases List.mem_cons.mp hp with rfl | hp
  · exact ⟨_, _, rfl⟩
  · exact h p hp
theorem tups_app {l l' : List (Addr × Obj)} (h : Tups l) (k : Tups l') : Tups (l ++ l') := fun q hq => (List.mem_append.mp hq).elim (h q) (k q)
theorem Tups.off {h₀ h : Heap} {L : Addr} {adr : List Addr} {nw e : List (Addr × Obj)} (T : Tups e) (N : News h₀ L h nw) (s : ∀ p ∈ e, p ∈ nw) (k : ∀ b ∈ adr, ∃ o, (b, o) ∈ nw ∧ NoTup o) : OwnOff e adr := by
  intro p hp b hb
  obtain ⟨o, hm, hc⟩ := k b hb
  refine ne_obj N (s p hp) hm ?_
  obtain ⟨_, _, e⟩ := T p hp
  rw [e]; exact Ne.symm (hc _ _)
theorem Tups.offI {h₀ h : Heap} {L I : Addr} {it : Obj} {nw e : List (Addr × Obj)} (T : Tups e) (N : News h₀ L h nw) (hI : (I, it) ∈ nw) (hc : NoTup it) (s : ∀ p ∈ e, p ∈ nw) : OffI I e := by
  intro p hp
  refine ne_obj N (s p hp) hI ?_
  obtain ⟨_, _, e⟩ := T p hp
  rw [e]; exact Ne.symm (hc _ _)
inductive Cut (im : List (Addr × Obj)) : List (Addr × Obj) → List (Addr × Obj) → Prop
  | nil : Cut im im []
  | cons {a : Addr} {vs : List Value} {n : Nat} {nw e : List (Addr × Obj)} : Cut im nw e → Cut im ((a, tupO vs n) :: nw) ((a, tupO vs n) :: e)
  | drop {p : Addr × Obj} {nw e : List (Addr × Obj)} : Cut im nw e → Cut im (p :: nw) e
  | app {a nw e : List (Addr × Obj)} : Tups a → Cut im nw e → Cut im (a ++ nw) (a ++ e)
theorem Cut.mem {im nw e : List (Addr × Obj)} (h : Cut im nw e) : ∀ p ∈ e ++ im, p ∈ nw := by
  induction h with
  | nil => exact fun _ h => h
  | cons _ ih =>
    intro p hp
    rcases List.mem_cons.mp hp with rfl | hp
    · exact .head _
    · exact .tail _ (ih p hp)
  | drop _ ih => exact fun p hp => .tail _ (ih p hp)
  | app _ _ ih =>
    intro p hp
    rw [List.append_assoc] at hp
    rcases List.mem_append.mp hp with hp | hp
    · exact List.mem_append.mpr (.inl hp)
    · exact List.mem_append.mpr (.inr (ih p hp))
theorem Cut.tups {im nw e : List (Addr × Obj)} (h : Cut im nw e) : Tups e := by
  induction h with
  | nil => exact tups_nil
  | cons _ ih => exact tups_cons ih
  | drop _ ih => exact ih
  | app a _ ih => exact tups_app a ih
inductive Outs (im : List (Addr × Obj)) : List (Addr × Obj) → List (Addr × Obj) → List (Addr × Obj) → Prop
  | nil {nw e : List (Addr × Obj)} : Cut im nw e → Outs im nw (e ++ im) e
  | cons {c : Addr × Obj} {nw r full e : List (Addr × Obj)} : Pull c nw r → Outs im r full e → Outs im nw (c :: full) e
theorem Outs.mem {im nw full e : List (Addr × Obj)} (h : Outs im nw full e) : ∀ p ∈ full, p ∈ nw := by
  induction h with
  | nil c => exact c.mem
  | cons a _ ih =>
    intro p hp
    rcases List.mem_cons.mp hp with rfl | hp
    · exact a.mem _ (.head _)
    · exact a.mem _ (.tail _ (ih _ hp))
theorem Outs.tups {im nw full e : List (Addr × Obj)} (h : Outs im nw full e) : Tups e := by
  induction h with
  | nil c => exact c.tups
  | cons _ _ ih => exact ih
theorem news_outs {h₀ h : Heap} {L : Addr} {im nw full e : List (Addr × Obj)} (N : News h₀ L h nw) (P : Outs im nw full e) : News h₀ L h full := fun p hp => N p (P.mem p hp)

noncomputable def TEnd (h₀ : Heap) (L : Addr) (I : Addr) (it : Obj) (t : Addr) (o : Obj) (rest : (Str → Option Value) → List (Addr × Obj) → Prop) (s₁ s₂ : Shared) : Prop :=
  ∃ h' tk m' nx nw, s₂ = { s₁ with heap := h', toks := tk } ∧ Fr h₀ L h' m' ∧ News h₀ L h' nw ∧ Pull (I, it) nw nx ∧ (t, o) ∈ nx ∧ OffI I nx ∧ rest m' nx
noncomputable def TStep (h₀ : Heap) (L : Addr) (I : Addr) (it : Obj) (t : Addr) (o : Obj) (rest : (Str → Option Value) → List (Addr × Obj) → Prop) (Q : Flow → Shared → Prop) (s₁ : Shared) (f : Flow) (s₂ : Shared) : Prop :=
  match f with
  | .ret v => Q (.ret v) s₂
  | .brk => Q .next s₂
  | _ => TEnd h₀ L I it t o rest s₁ s₂
noncomputable def TRest (prog : Program) (w : World) (A : Around) (E : Value → Shared → Prop) (h₀ : Heap) (env : Env) (x : Str) (body : List Stmt) (Q : Flow → Shared → Prop) (s : Shared) (I : Addr) (cn : String) (t : Addr) (o : Obj) : List Value → (Str → Option Value) → List (Addr × Obj) → Prop
  | [], m, news => ∀ h tk, Fr h₀ env.locals h m → News h₀ env.locals h news → Q .next { s with heap := h, toks := tk }
  | v :: r, m, news => ∀ it h tk, it.cls = .type cn → OffI I news → Fr h₀ env.locals h (fun y => if y = x then some v else m y) → News h₀ env.locals h ((I, it) :: news) →
      wpAny (model prog w) A (execs body env) (TStep h₀ env.locals I it t o (TRest prog w A E h₀ env x body Q s I cn t o r) Q { s with heap := h, toks := tk }) E { s with heap := h, toks := tk }
theorem TEnd.intro {h₀ : Heap} {L : Addr} {I : Addr} {it : Obj} {t : Addr} {o : Obj} {rest : (Str → Option Value) → List (Addr × Obj) → Prop} {s₁ : Shared} {h' : Heap} {tk : Nat} {m' : Str → Option Value} {nx nw : List (Addr × Obj)}
    (F : Fr h₀ L h' m') (N : News h₀ L h' nw) (P : Pull (I, it) nw nx) (ht : (t, o) ∈ nx) (ho : OffI I nx) (r : rest m' nx) : TEnd h₀ L I it t o rest s₁ { s₁ with heap := h', toks := tk } := ⟨h', tk, m', nx, nw, rfl, F, N, P, ht, ho, r⟩

section
variable {prog : Program} {w : World} {A : Around} {E : Value → Shared → Prop} {s : Shared} {env : Env} {h₀ : Heap} {x : Str} {body : List Stmt} {Q : Flow → Shared → Prop}
theorem walks_also {I t : Addr} {o : Obj} {fp : List Addr} {n : Nat} {P P' : Nat → Value → Prop} {St : Nat → Heap → Prop} (W : Walks prog w A I fp [I] n P St) (hf : ∀ b ∈ fp, b ∈ [I, t]) (hne : t ≠ I) (hP : ∀ i v, P i v → P' i v) : Walks prog w A I [I, t] [I] n P' (fun i h => St i h ∧ h.get? t = some o) :=
  ⟨fun b hb => List.mem_singleton.mp hb ▸ .head _, fun i h h' st hk => ⟨W.frame i h h' st.1 fun b hb => hk b (hf b hb), hk t (.tail _ (.head _)) _ st.2⟩,
    fun i s Q E hi st hQ => W.item i s Q E hi st.1 fun v h' tk' p hst hk => hQ v h' tk' (hP i v p) ⟨hst, hk t _ (fun h => hne (List.mem_singleton.mp h)) st.2⟩ hk,
    fun s Q E st hQ => W.done s Q E st.1 hQ, fun i s Q E st hQ => W.self i s Q E st.1 hQ⟩
theorem seq_turns {t : Addr} {o : Obj} {cn : String} {ps : List Value} {m₀ : Str → Option Value} {news : List (Addr × Obj)} {I : Addr} {St : Nat → Heap → Prop}
    (hl : (t, o) ∈ news) (hIs : I = s.heap.objs.size) (F : Fr h₀ env.locals s.heap m₀) (N : News h₀ env.locals s.heap news)
    (W : Walks prog w A I [I, t] [I] ps.length (fun i v => ps[i]? = some v) (fun i h => St i h ∧ h.get? t = some o))
    (hSt : ∀ i h, St i h → ∃ it, h.get? I = some it ∧ it.cls = .type cn)
    {s₂ : Shared} (hs₂ : ∃ h₂, s₂ = { s with heap := h₂ } ∧ Fr h₀ env.locals h₂ m₀ ∧ News h₀ env.locals h₂ news ∧ St 0 h₂)
    (rest₀ : OffI I news → TRest prog w A E h₀ env x body Q s I cn t o ps m₀ news) : LoopAtV prog w A h₀ env x body Q E (.ref I) s₂ := by
  obtain ⟨h₂, rfl, F₂, N₂, hst₀⟩ := hs₂
  have hI0 : h₀.get? I = none := hIs ▸ next_is_new F
  have hoff : OffI I news := fun p hp => by rw [hIs]; exact Nat.ne_of_lt (Heap.lt_size (N p hp).1)
  refine ⟨I, _, _, ps.length, _, _, m₀, news, (fun i m nx => (t, o) ∈ nx ∧ TRest prog w A E h₀ env x body Q s I cn t o (ps.drop i) m nx), rfl, W, fun hm => ?_, fun b hb => List.mem_singleton.mp hb ▸ hI0, fun p hp hI => hoff p hp (List.mem_singleton.mp hI), ⟨hst₀, (N₂ _ hl).1⟩, F₂, N₂, ⟨hl, rest₀ hoff⟩, ?_, ?_⟩
  · rcases List.mem_cons.mp hm with e | hm
    · exact absurd F.ns.lt (by rw [e, hIs]; exact Nat.lt_irrefl _)
    · exact (N _ hl).2.1 ((List.mem_singleton.mp hm).symm)
  · rintro i v m₁ news₁ s₁ own ⟨hh', tk', rfl⟩ hin hp ⟨hl₁, hJ⟩ hoff₁ hown hget hfp hst F₁ N₁
    obtain ⟨it, hit, hic⟩ := hSt _ _ hst.1
    have hmI : (I, it) ∈ own := hfp _ (List.mem_cons.mpr (.inl rfl)) hI0 _ hit
    have hto : hh'.get? t = some o := hst.2
    obtain ⟨hi, e⟩ := List.getElem?_eq_some_iff.mp hp
    rw [List.drop_eq_getElem_cons hi, e] at hJ
    have ho₁ : OffI I news₁ := fun p hp e => hoff₁ p hp (List.mem_singleton.mpr e)
    have N₂ : News h₀ env.locals hh' ((I, it) :: news₁) := fun p hp => (List.mem_cons.mp hp).elim (fun e => e ▸ N₁ _ (List.mem_append.mpr (.inl hmI))) fun hp => N₁ p (List.mem_append.mpr (.inr hp))
    refine wpAny_mono (hJ it hh' tk' hic ho₁ F₁ N₂) (fun f s₂ p => ?_) fun _ _ e => e
    have fin : TEnd h₀ env.locals I it t o (TRest prog w A E h₀ env x body Q s I cn t o (ps.drop (i + 1))) { s with heap := hh', toks := tk' } s₂ →
        LoopStepU h₀ env.locals [I] own (fun m nx => (t, o) ∈ nx ∧ TRest prog w A E h₀ env x body Q s I cn t o (ps.drop (i + 1)) m nx) { s with heap := hh', toks := tk' } .next s₂ := by
      rintro ⟨h', tk, m', nx, nw, e, F', N', P', ht', hoI, r⟩
      refine ⟨rfl, h', tk, m', nx, e, F', fun p hp => ?_, fun p hp hI => hoI p hp (List.mem_singleton.mp hI), ht', r⟩
      rcases List.mem_append.mp hp with hp | hp
      · have hg := hget p hp
        rcases List.mem_cons.mp (hown p hp) with h1 | h1
        · have : p = (I, it) := Prod.ext h1 (by rw [h1, hit] at hg; exact (Option.some.inj hg).symm)
          rw [this]; exact N' _ (P'.mem _ (.head _))
        · have h2 := List.mem_singleton.mp h1
          have : p = (t, o) := Prod.ext h2 (by rw [h2, hto] at hg; exact (Option.some.inj hg).symm)
          rw [this]; exact N' _ (P'.mem _ (.tail _ ht'))
      · exact N' _ (P'.mem _ (.tail _ hp))
    cases f with
    | ret v => exact p
    | brk => exact p
    | next => exact fin p
    | cont => exact fin p
  · rintro h' tk m' news' F' N' _ ⟨_, hJ⟩
    rw [List.drop_length] at hJ
    exact hJ h' tk F' N'
theorem tup_turns {t : Addr} {vs : List Value} {n : Nat} {m₀ : Str → Option Value} {news : List (Addr × Obj)}
    (hh : A.handled = none) (hl : (t, tupO vs n) ∈ news) (F : Fr h₀ env.locals s.heap m₀) (N : News h₀ env.locals s.heap news)
    (rest₀ : ∀ I : Addr, (∀ p ∈ news, p.1 < I) → OffI I news → TRest prog w A E h₀ env x body Q s I "tuple_iterator" t (tupO vs n) vs m₀ news) :
    wpAny (model prog w) A (pyIter (.ref t)) (fun it s₂ => LoopAtV prog w A h₀ env x body Q E it s₂) E s := by
  have hol : s.heap.get? t = some (tupO vs n) := (N _ hl).1
  have hls : s.heap.IsTuple t vs.toArray := ⟨_, hol, rfl, n, rfl⟩
  have hne : t ≠ s.heap.objs.size := Nat.ne_of_lt (Heap.lt_size hol)
  refine wpAny_pyIter_tuple hls ?_
  have W := walks_also (o := tupO vs n) (Walks.tuple (prog := prog) (w := w) hh s.heap.objs.size t hne vs.toArray) (P' := fun i v => vs[i]? = some v) (fun _ h => h) hne (fun i v h => by simpa using h)
  rw [List.size_toArray] at W
  exact seq_turns (cn := "tuple_iterator") hl rfl F N W (fun i h st => by obtain ⟨it, hit, hic, _⟩ := st.1; exact ⟨it, hit, hic⟩)
    ⟨_, rfl, F.push _, fun p hp => ⟨Heap.get?_push_of_some _ (N p hp).1, (N p hp).2⟩, ⟨_, Heap.get?_push_size _ rfl, rfl, rfl⟩, hls.at fun o e => Heap.get?_push_of_some _ e⟩ (rest₀ _ fun p hp => Heap.lt_size (N p hp).1)
theorem list_turns {t : Addr} {vs : List Value} {n : Nat} {m₀ : Str → Option Value} {news : List (Addr × Obj)}
    (hh : A.handled = none) (hl : (t, listOf vs.toArray n) ∈ news) (F : Fr h₀ env.locals s.heap m₀) (N : News h₀ env.locals s.heap news)
    (rest₀ : ∀ I : Addr, (∀ p ∈ news, p.1 < I) → OffI I news → TRest prog w A E h₀ env x body Q s I "list_iterator" t (listOf vs.toArray n) vs m₀ news) :
    wpAny (model prog w) A (pyIter (.ref t)) (fun it s₂ => LoopAtV prog w A h₀ env x body Q E it s₂) E s := by
  have hol : s.heap.get? t = some (listOf vs.toArray n) := (N _ hl).1
  have hls : s.heap.IsList t vs.toArray := ⟨_, hol, rfl, n, rfl⟩
  have hne : t ≠ s.heap.objs.size := Nat.ne_of_lt (Heap.lt_size hol)
  refine wpAny_pyIter_list hls ?_
  have W := walks_also (o := listOf vs.toArray n) (Walks.list (prog := prog) (w := w) hh s.heap.objs.size t hne vs.toArray) (P' := fun i v => vs[i]? = some v) (fun _ h => h) hne (fun i v h => by simpa using h)
  rw [List.size_toArray] at W
  exact seq_turns (cn := "list_iterator") hl rfl F N W (fun i h st => by obtain ⟨it, hit, hic, _⟩ := st.1; exact ⟨it, hit, hic⟩)
    ⟨_, rfl, F.push _, fun p hp => ⟨Heap.get?_push_of_some _ (N p hp).1, (N p hp).2⟩, ⟨_, Heap.get?_push_size _ rfl, rfl, rfl⟩, hls.at fun o e => Heap.get?_push_of_some _ e⟩ (rest₀ _ fun p hp => Heap.lt_size (N p hp).1)
end
end
section
inductive Op where
  | chr (c : Int) | any | cls | fin | opn (n : Nat) | clo (n : Nat) | back (n : Nat)
  | split (a b : Nat) | jump (a : Nat) | loop (k : Nat) | head (k : Nat) (lo : Int) (mo : Option Int) (lz : Bool) (out : Nat) | tail (k : Nat) (lo : Int) (hh : Nat) | met

noncomputable abbrev datO : Option Int → Dat
  | none => .none
  | some i => .int i

noncomputable def Op.dat : Op → Dat
  | .chr c => .tuple [.int 0, .int c]
  | .any => .tuple [.int 1]
  | .cls => .tuple [.int 2, .tuple [.tuple [.int 97, .int 98]], .bool false]
  | .fin => .tuple [.int 4]
  | .opn n => .tuple [.int 6, .int n]
  | .clo n => .tuple [.int 7, .int n]
  | .back n => .tuple [.int 8, .int n]
  | .split a b => .tuple [.int 10, .int a, .int b]
  | .jump a => .tuple [.int 11, .int a]
  | .loop k => .tuple [.int 12, .int k]
  | .head k lo mo lz out => .tuple [.int 13, .int k, .int lo, datO mo, .bool lz, .int 1, .int 1, .int out]
  | .tail k lo hh => .tuple [.int 14, .int k, .int lo, .int hh]
  | .met => .tuple [.int 15]

inductive Pat where
  | chr (c : Int) | any | cls | fin | back (n : Nat)
  | seq2 (a b : Pat) | seq3 (a b c : Pat)
  | alt2 (a b : Pat)
  | grp (t : Pat) | grpN (n : Nat) (t : Pat)
  | rep (lo : Int) (mo : Option Int) (lz : Bool) (t : Pat)

namespace Pat
noncomputable def dat : Pat → Dat
  | chr c => .tuple [.str (Str.ofString "char"), .int c]
  | any => .tuple [.str (Str.ofString "any")]
  | cls => .tuple [.str (Str.ofString "class"), .tuple [.tuple [.int 97, .int 98]], .bool false]
  | fin => .tuple [.str (Str.ofString "end")]
  | back n => .tuple [.str (Str.ofString "back"), .int n]
  | seq2 a b => .tuple [.str (Str.ofString "seq"), .tuple [a.dat, b.dat]]
  | seq3 a b c => .tuple [.str (Str.ofString "seq"), .tuple [a.dat, b.dat, c.dat]]
  | alt2 a b => .tuple [.str (Str.ofString "alt"), .tuple [a.dat, b.dat]]
  | grp t => .tuple [.str (Str.ofString "group"), .none, t.dat]
  | grpN n t => .tuple [.str (Str.ofString "group"), .int n, t.dat]
  | rep lo mo lz t => .tuple [.str (Str.ofString "repeat"), .int lo, datO mo, .bool lz, t.dat, .int 1, .int 1]

noncomputable def loops : Pat → Nat
  | seq2 a b | alt2 a b => a.loops + b.loops
  | seq3 a b c => a.loops + b.loops + c.loops
  | grp t | grpN _ t => t.loops
  | rep _ _ _ t => t.loops + 1
  | chr _ | any | cls | fin | back _ => 0

noncomputable def len : Pat → Nat
  | seq2 a b => a.len + b.len
  | seq3 a b c => a.len + b.len + c.len
  | alt2 a b => a.len + b.len + 2
  | grp t => t.len
  | grpN _ t => t.len + 2
  | rep _ _ _ t => t.len + 3
  | chr _ | any | cls | fin | back _ => 1

noncomputable def ops : Pat → Nat → Nat → List Op
  | chr c, _, _ => [.chr c]
  | any, _, _ => [.any]
  | cls, _, _ => [.cls]
  | fin, _, _ => [.fin]
  | back n, _, _ => [.back n]
  | seq2 a b, p, k => a.ops p k ++ b.ops (p + a.len) (k + a.loops)
  | seq3 a b c, p, k => a.ops p k ++ (b.ops (p + a.len) (k + a.loops) ++ c.ops (p + a.len + b.len) (k + a.loops + b.loops))
  | alt2 a b, p, k => .split (p + 1) (p + a.len + 2) :: (a.ops (p + 1) k ++ .jump (p + a.len + 2 + b.len) :: b.ops (p + a.len + 2) (k + a.loops))
  | grp t, p, k => t.ops p k
  | grpN n t, p, k => .opn n :: (t.ops (p + 1) k ++ [.clo n])
  | rep lo mo lz t, p, k => .loop k :: .head k lo mo lz (p + t.len + 3) :: (t.ops (p + 2) (k + 1) ++ [.tail k lo (p + 1)])
theorem ops_length : ∀ (t : Pat) (p k : Nat), (t.ops p k).length = t.len
  | chr _, _, _ | any, _, _ | cls, _, _ | fin, _, _ | back _, _, _ => rfl
  | seq2 a b, p, k => by
    show (a.ops p k ++ b.ops _ _).length = a.len + b.len
    rw [List.length_append, ops_length a, ops_length b]
  | seq3 a b c, p, k => by
    show (a.ops p k ++ (b.ops _ _ ++ c.ops _ _)).length = a.len + b.len + c.len
    rw [List.length_append, List.length_append, ops_length a, ops_length b, ops_length c, Nat.add_assoc]
  | alt2 a b, p, k => by
    show (a.ops _ _ ++ Op.jump _ :: b.ops _ _).length + 1 = a.len + b.len + 2
    rw [List.length_append, List.length_cons, ops_length a, ops_length b]; rfl
  | grp t, p, k => ops_length t p k
  | grpN n t, p, k => by
    show (t.ops _ _ ++ [Op.clo _]).length + 1 = t.len + 2
    rw [List.length_append, ops_length t]; rfl
  | rep lo mo lz t, p, k => by
    show (t.ops _ _ ++ [Op.tail _ _ _]).length + 2 = t.len + 3
    rw [List.length_append, ops_length t]; rfl
noncomputable def room : Pat → Nat
  | chr _ | any | cls | fin | back _ => 2
  | seq2 a b => a.room + b.room + 1
  | seq3 a b c => a.room + b.room + c.room + 1
  | alt2 a b => a.room + b.room + 2
  | grp t | grpN _ t => t.room + 2
  | rep _ _ _ t => t.room + 2
theorem room_two : ∀ t : Pat, 2 ≤ t.room
  | chr _ | any | cls | fin | back _ => Nat.le_refl _
  | seq2 a b => by have := room_two a; show 2 ≤ a.room + b.room + 1; lia -abstractProof
  | seq3 a b c => by have := room_two a; show 2 ≤ a.room + b.room + c.room + 1; lia -abstractProof
  | alt2 a b => Nat.le_add_left 2 _
  | grp t | grpN _ t => Nat.le_add_left 2 _
  | rep _ _ _ t => Nat.le_add_left 2 _
end Pat
open Pat in
theorem alt2_fin {ds : List Dat} {a b : Pat} {k q : Nat} {i1 i2 i3 : Int} (e1 : i1 = ds.length + 1) (e2 : i2 = ds.length + a.len + 2) (e3 : i3 = ds.length + a.len + 2 + b.len) (e4 : q = ds.length + a.len + 2) :
    ds ++ Dat.tuple [.int 10, .int i1, .int i2] :: ((a.ops (ds.length + 1) k).map Op.dat ++ Dat.tuple [.int 11, .int i3] :: (b.ops q (k + a.loops)).map Op.dat) = ds ++ ((alt2 a b).ops ds.length k).map Op.dat := by
  subst e1 e2 e3 e4
  show _ = ds ++ List.map Op.dat (Op.split _ _ :: (a.ops _ _ ++ Op.jump _ :: b.ops _ _))
  rw [List.map_cons, List.map_append, List.map_cons]; rfl
open Pat in
theorem grp_fin {ds : List Dat} {a : Pat} {n k q : Nat} (e1 : q = ds.length + 1) :
    ds ++ [Dat.tuple [.int 6, .int n]] ++ (a.ops q k).map Op.dat ++ [Dat.tuple [.int 7, .int n]] = ds ++ ((grpN n a).ops ds.length k).map Op.dat := by
  subst e1
  show _ = ds ++ List.map Op.dat (Op.opn n :: (a.ops _ _ ++ [Op.clo n]))
  rw [List.map_cons, List.map_append, List.append_assoc, List.append_assoc]; rfl
open Pat in
theorem rep_fin {ds : List Dat} {a : Pat} {lo : Int} {mo : Option Int} {lz : Bool} {k i : Nat} {i1 i2 : Int} {x : Dat} {q : Nat} (hi : i = ds.length + 1) (e1 : i1 = ds.length + a.len + 3) (e2 : i2 = ds.length + 1) (e3 : q = ds.length + 2) :
    (ds ++ [Dat.tuple [.int 12, .int k]] ++ [x] ++ (a.ops q (k + 1)).map Op.dat ++ [Dat.tuple [.int 14, .int k, .int lo, .int i2]]).set i (Dat.tuple [.int 13, .int k, .int lo, datO mo, .bool lz, .int 1, .int 1, .int i1]) = ds ++ ((rep lo mo lz a).ops ds.length k).map Op.dat := by
  subst e1 e2 e3
  have e : ds ++ [Dat.tuple [.int 12, .int k]] ++ [x] ++ (a.ops (ds.length + 2) (k + 1)).map Op.dat ++ [Dat.tuple [.int 14, .int k, .int lo, .int (ds.length + 1)]] = (ds ++ [Dat.tuple [.int 12, .int k]]) ++ x :: ((a.ops (ds.length + 2) (k + 1)).map Op.dat ++ [Dat.tuple [.int 14, .int k, .int lo, .int (ds.length + 1)]]) := by simp
  rw [e, set1 (by simp; exact hi)]
  show _ = ds ++ List.map Op.dat (Op.loop _ :: Op.head _ _ _ _ _ :: (a.ops _ _ ++ [Op.tail _ _ _]))
  rw [List.map_cons, List.map_cons, List.map_append, List.append_assoc]; rfl
end
section
structure St where
  pc : Nat
  i : Nat
  gs : List Dat
  ls : List Dat
noncomputable abbrev St.dat (s : St) : Dat := .tuple [.int s.pc, .int s.i, .tuple s.gs, .tuple s.ls]
noncomputable def takesB : Op → Int → Bool
  | .chr c, code => decide (c = code)
  | .any, _ => true
  | .cls, code => decide (code ≠ 99)
  | _, _ => false
noncomputable def asCB : Dat → Option (Int × Int)
  | .tuple [.int c, .int b] => some (c, b)
  | _ => none
noncomputable def asBE : Dat → Option (Nat × Nat)
  | .tuple [.int b, .int e] => some (b.toNat, e.toNat)
  | _ => none
noncomputable def isNoD : Dat → Bool
  | .none => true
  | _ => false
noncomputable def succ (T : List Nat) (op : Op) (s : St) : List St := match op with
  | .chr _ | .any | .cls => Option.elim T[s.i]? [] fun k => if takesB op k = true then [⟨s.pc + 1, s.i + 1, s.gs, s.ls⟩] else []
  | .split a b => [⟨a, s.i, s.gs, s.ls⟩, ⟨b, s.i, s.gs, s.ls⟩]
  | .jump a => [⟨a, s.i, s.gs, s.ls⟩]
  | .loop k => [⟨s.pc + 1, s.i, s.gs, s.ls.set k (.tuple [.int 0, .int s.i])⟩]
  | .head k lo mo lz out => Option.elim (s.ls[k]?.bind asCB) [] fun p =>
      if mo.any (· ≤ p.1) = true then [⟨out, s.i, s.gs, s.ls⟩]
      else if p.1 < lo then [⟨s.pc + 1, s.i, s.gs, s.ls.set k (.tuple [.int p.1, .int s.i])⟩]
      else if lz = true then [⟨out, s.i, s.gs, s.ls⟩, ⟨s.pc + 1, s.i, s.gs, s.ls.set k (.tuple [.int p.1, .int s.i])⟩]
      else [⟨s.pc + 1, s.i, s.gs, s.ls.set k (.tuple [.int p.1, .int s.i])⟩, ⟨out, s.i, s.gs, s.ls⟩]
  | .tail k lo hh => Option.elim (s.ls[k]?.bind asCB) [] fun p => if lo ≤ p.1 ∧ p.2 = s.i then [] else [⟨hh, s.i, s.gs, s.ls.set k (.tuple [.int (p.1 + 1), .int s.i])⟩]
  | .fin => if s.i = T.length then [⟨s.pc + 1, s.i, s.gs, s.ls⟩] else []
  | .opn n => [⟨s.pc + 1, s.i, s.gs, s.ls.set (s.ls.length - n) (.int s.i)⟩]
  | .clo n => Option.elim s.ls[s.ls.length - n]? [] fun d => [⟨s.pc + 1, s.i, s.gs.set (n - 1) (.tuple [d, .int s.i]), s.ls⟩]
  | .back n => Option.elim s.gs[n - 1]? [] fun d => cond (isNoD d) [⟨s.pc + 1, s.i, s.gs, s.ls⟩] (Option.elim (asBE d) [] fun p =>
      if (T.drop p.1).take (p.2 - p.1) = (T.drop s.i).take (p.2 - p.1) then [⟨s.pc + 1, s.i + (p.2 - p.1), s.gs, s.ls⟩] else [])
  | .met => []
theorem succ_head {T : List Nat} {s : St} {k out : Nat} {lo c b : Int} {mo : Option Int} {lz : Bool} (h : s.ls[k]? = some (.tuple [.int c, .int b])) : succ T (.head k lo mo lz out) s =
      if mo.any (· ≤ c) = true then [⟨out, s.i, s.gs, s.ls⟩]
      else if c < lo then [⟨s.pc + 1, s.i, s.gs, s.ls.set k (.tuple [.int c, .int s.i])⟩]
      else if lz = true then [⟨out, s.i, s.gs, s.ls⟩, ⟨s.pc + 1, s.i, s.gs, s.ls.set k (.tuple [.int c, .int s.i])⟩]
      else [⟨s.pc + 1, s.i, s.gs, s.ls.set k (.tuple [.int c, .int s.i])⟩, ⟨out, s.i, s.gs, s.ls⟩] := by
  show Option.elim (s.ls[k]?.bind asCB) [] _ = _
  rw [h]; rfl
theorem succ_tail {T : List Nat} {s : St} {k hh : Nat} {lo c b : Int} (h : s.ls[k]? = some (.tuple [.int c, .int b])) : succ T (.tail k lo hh) s = if lo ≤ c ∧ b = s.i then [] else [⟨hh, s.i, s.gs, s.ls.set k (.tuple [.int (c + 1), .int s.i])⟩] := by
  show Option.elim (s.ls[k]?.bind asCB) [] _ = _
  rw [h]; rfl
noncomputable def Fit (T : List Nat) (op : Op) (s : St) : Prop := match op with
  | .loop k => k < s.ls.length
  | .head k _ _ _ _ | .tail k _ _ => ∃ c b : Int, s.ls[k]? = some (.tuple [.int c, .int b])
  | .opn n => 1 ≤ n ∧ n ≤ s.ls.length
  | .clo n => 1 ≤ n ∧ n ≤ s.ls.length ∧ n ≤ s.gs.length ∧ ∃ b : Nat, s.ls[s.ls.length - n]? = some (.int b)
  | .back n => 1 ≤ n ∧ (s.gs[n - 1]? = some .none ∨ ∃ b e : Nat, s.gs[n - 1]? = some (.tuple [.int b, .int e]) ∧ b ≤ e ∧ e ≤ T.length)
  | .met => False
  | _ => True
inductive Out (C : List Op) (T : List Nat) : Nat → List St → Option (Nat × List Dat) → Prop
  | nil : Out C T 0 [] none
  | met {s : St} {W : List St} : C[s.pc]? = some .met → Out C T 1 (s :: W) (some (s.i, s.gs))
  | step {s : St} {W : List St} {op : Op} {n : Nat} {r : Option (Nat × List Dat)} : C[s.pc]? = some op → Fit T op s → Out C T n (succ T op s ++ W) r → Out C T (n + 1) (s :: W) r
noncomputable def Sized (T : List Nat) (G Lq : Nat) (s : St) : Prop := s.gs.length = G ∧ s.ls.length = Lq ∧ s.i ≤ T.length
section
variable {α : Type} {p : St → Prop} {l m : List St} {a b : St}
theorem all0 : ∀ x ∈ ([] : List St), p x := fun _ h => nomatch h
theorem all1 (h : p a) : ∀ x ∈ [a], p x := fun _ hx => List.mem_singleton.mp hx ▸ h
theorem all2 (h : p a) (k : p b) : ∀ x ∈ [a, b], p x := fun _ hx => (List.mem_cons.mp hx).elim (fun e => e ▸ h) (all1 k _)
theorem all_ite {c : Prop} [Decidable c] (h : ∀ x ∈ l, p x) (k : ∀ x ∈ m, p x) : ∀ x ∈ (if c then l else m), p x := by
  by_cases e : c
  · rw [if_pos e]; exact h
  · rw [if_neg e]; exact k
theorem all_cond {c : Bool} (h : ∀ x ∈ l, p x) (k : ∀ x ∈ m, p x) : ∀ x ∈ cond c l m, p x := by cases c; exact k; exact h
theorem two_cond {c : Bool} (h : l.length ≤ 2) (k : m.length ≤ 2) : (cond c l m).length ≤ 2 := by cases c; exact k; exact h
theorem all_opt {o : Option α} {f : α → List St} (h : ∀ k, o = some k → ∀ x ∈ f k, p x) : ∀ x ∈ Option.elim o [] f, p x := by
  cases o with
  | none => exact all0
  | some k => exact h k rfl
theorem two_ite {c : Prop} [Decidable c] (h : l.length ≤ 2) (k : m.length ≤ 2) : (if c then l else m).length ≤ 2 := by
  by_cases e : c
  · rw [if_pos e]; exact h
  · rw [if_neg e]; exact k
theorem two_opt {o : Option α} {f : α → List St} (h : ∀ k, (f k).length ≤ 2) : (Option.elim o [] f).length ≤ 2 := by
  cases o with
  | none => exact Nat.zero_le _
  | some k => exact h k
end
theorem sized_set {T : List Nat} {G Lq : Nat} {s : St} (h : Sized T G Lq s) (pc k : Nat) (d : Dat) : Sized T G Lq ⟨pc, s.i, s.gs, s.ls.set k d⟩ := ⟨h.1, by show (s.ls.set _ _).length = _; rw [List.length_set]; exact h.2.1, h.2.2⟩
theorem take_sized {T : List Nat} {G Lq : Nat} {op : Op} {s : St} (h : Sized T G Lq s) : ∀ a ∈ (Option.elim T[s.i]? [] fun k => if takesB op k = true then [⟨s.pc + 1, s.i + 1, s.gs, s.ls⟩] else []), Sized T G Lq a :=
  all_opt fun _ hk => all_ite (all1 ⟨h.1, h.2.1, (List.getElem?_eq_some_iff.mp hk).1⟩) all0
theorem slice_len {T : List Nat} {b e i : Nat} (h1 : b ≤ e) (h2 : e ≤ T.length) (h : (T.drop b).take (e - b) = (T.drop i).take (e - b)) (hi : i ≤ T.length) : i + (e - b) ≤ T.length := by
  have hl := congrArg List.length h
  rw [List.length_take, List.length_take, List.length_drop, List.length_drop] at hl
  lia -abstractProof
theorem succ_sized {T : List Nat} {G Lq : Nat} {op : Op} {s : St} (h : Sized T G Lq s) (hf : Fit T op s) : ∀ a ∈ succ T op s, Sized T G Lq a := by
  cases op with
  | chr c => exact take_sized h
  | any => exact take_sized h
  | cls => exact take_sized h
  | fin => exact all_ite (all1 h) all0
  | opn n => exact all1 (sized_set h _ _ _)
  | clo n => exact all_opt fun _ _ => all1 ⟨by show (s.gs.set _ _).length = _; rw [List.length_set]; exact h.1, h.2⟩
  | back n =>
    obtain ⟨_, hh⟩ := hf
    refine all_opt fun d hd => all_cond (all1 h) (all_opt fun p hp => ?_)
    rcases hh with hh | ⟨b, e, hh, h1, h2⟩
    · obtain rfl := Option.some.inj (hd.symm.trans hh); cases hp
    · obtain rfl := Option.some.inj (hd.symm.trans hh)
      obtain rfl : (b, e) = p := Option.some.inj hp
      by_cases he : (T.drop b).take (e - b) = (T.drop s.i).take (e - b)
      · rw [if_pos he]; exact all1 ⟨h.1, h.2.1, slice_len h1 h2 he h.2.2⟩
      · rw [if_neg he]; exact all0
  | split a b => exact all2 h h
  | jump b => exact all1 h
  | loop k => exact all1 (sized_set h _ _ _)
  | head k lo mo lz out => exact all_opt fun _ _ => all_ite (all1 h) (all_ite (all1 (sized_set h _ _ _)) (all_ite (all2 h (sized_set h _ _ _)) (all2 (sized_set h _ _ _) h)))
  | tail k lo hh => exact all_opt fun _ _ => all_ite all0 (all1 (sized_set h _ _ _))
  | met => exact all0
theorem out_sized {C : List Op} {T : List Nat} {G Lq n : Nat} {W : List St} {r : Option (Nat × List Dat)} (h : Out C T n W r) : (∀ s ∈ W, Sized T G Lq s) → ∀ i g, r = some (i, g) → g.length = G ∧ i ≤ T.length := by
  induction h with
  | nil => intro _ i g e; cases e
  | met hm => intro hs i g e; cases e; have := hs _ (.head _); exact ⟨this.1, this.2.2⟩
  | step hm hf _ ih =>
    intro hs
    exact ih fun a ha => (List.mem_append.mp ha).elim (succ_sized (hs _ (.head _)) hf a) fun ha => hs a (.tail _ ha)
theorem succ_two (T : List Nat) (op : Op) (s : St) : (succ T op s).length ≤ 2 := by
  cases op with
  | chr c => exact two_opt fun _ => two_ite (Nat.le_succ _) (Nat.zero_le _)
  | any => exact two_opt fun _ => two_ite (Nat.le_succ _) (Nat.zero_le _)
  | cls => exact two_opt fun _ => two_ite (Nat.le_succ _) (Nat.zero_le _)
  | fin => exact two_ite (Nat.le_succ _) (Nat.zero_le _)
  | opn n => exact Nat.le_succ _
  | clo n => exact two_opt fun _ => Nat.le_succ _
  | back n => exact two_opt fun _ => two_cond (Nat.le_succ _) (two_opt fun _ => two_ite (Nat.le_succ _) (Nat.zero_le _))
  | split a b => exact Nat.le_refl _
  | jump b => exact Nat.le_succ _
  | loop k => exact Nat.le_succ _
  | head k lo mo lz out => exact two_opt fun _ => two_ite (Nat.le_succ _) (two_ite (Nat.le_succ _) (two_ite (Nat.le_refl _) (Nat.le_refl _)))
  | tail k lo hh => exact two_opt fun _ => two_ite (Nat.zero_le _) (Nat.le_succ _)
  | met => exact Nat.zero_le _
end
section
open PySem.Calls PySem.Spec

noncomputable def Says (w : World) (f : Value) (args : List Value) (room : Nat) (news : List (Addr × Obj)) (post : Value → List (Addr × Obj) → Prop) : Prop :=
  ∀ (mean : ExcName → Option Value) (mg mb : Str → Option Value) (dp un : Nat) (gd : Option (List Code)) (cn : Str) (cs : Scope) (a : Addr) (ccd : Value) (cl : List (Str × Addr)) (outer : List Env) (A₀ : Around) (base h₀ : Heap) (L : Addr) (m : Str → Option Value) (s : Shared)
    (Q E : Value → Shared → Prop),
    Below A₀ base outer h₀ → Fr h₀ L s.heap m → (heap w.params).In h₀ → News h₀ L s.heap news → Top view (looseW view [Str.ofString "LINE_ENDS", Str.ofString "GREAT", Str.ofString "TURNS", Str.ofString "GREAT_ALONE", Str.ofString "SMALL_ALONE", Str.ofString "GREAT_WIDE", Str.ofString "Limits", Str.ofString "MOST_KEPT"]) mean mg mb h₀ → cs.kind = .function → dp + room < recursionLimit → un + 8 * room < cLine →
    (∀ r h' tk' news', Fr h₀ L h' m → News h₀ L h' news' → post r news' → Q r { s with heap := h', toks := tk' }) →
    wpAny (model PySem.Challenge.rw_sa0370_02.row.prog w) (ktrTop dp un gd cn cs L a ccd cl outer) (call f args) Q E s

theorem trick {p : Prop} (h : PySem.Challenge.rw_sa0370_02 = PySem.Challenge.rw_sa0370_02 → p) : p := h rfl
end
section
open PySem.Calls PySem.Spec
open Sem (wp)
open Builtin
theorem tm_zero (l : Addr) (v : Value) (n : Nat) (u : Tok) :
    Meets (Builtin.«tuple.__mul__» ⟨[.ref l, .int 0 u], []⟩) (fun _ R s => s.heap.get? l = some { cls := .type "tuple", dict := none, data := .seq #[v] n, slots := #[] } ∧ R (.ok (.ret (Value.ref s.heap.objs.size))) { s with heap := s.heap.push { cls := Value.type "tuple", data := Data.seq #[] }, toks := s.toks }) :=
  .of_wp fun prog w A R s h => by
    obtain ⟨hp, g, d, tk, os⟩ := s; obtain ⟨hl, h⟩ := h
    wp_walk
    exact ⟨_, rfl, h⟩
theorem tm_one (l : Addr) (v : Value) (n : Nat) (u : Tok) :
    Meets (Builtin.«tuple.__mul__» ⟨[.ref l, .int 1 u], []⟩) (fun _ R s => s.heap.get? l = some { cls := .type "tuple", dict := none, data := .seq #[v] n, slots := #[] } ∧ R (.ok (.ret (Value.ref l))) s) :=
  .of_wp fun prog w A R s h => by
    obtain ⟨hp, g, d, tk, os⟩ := s; obtain ⟨hl, h⟩ := h
    wp_walk
    exact ⟨_, rfl, h⟩
theorem tm_two (l : Addr) (v : Value) (n : Nat) (u : Tok) :
    Meets (Builtin.«tuple.__mul__» ⟨[.ref l, .int 2 u], []⟩) (fun _ R s => s.heap.get? l = some { cls := .type "tuple", dict := none, data := .seq #[v] n, slots := #[] } ∧ R (.ok (.ret (Value.ref s.heap.objs.size))) { s with heap := s.heap.push { cls := Value.type "tuple", data := Data.seq #[v, v] }, toks := s.toks }) :=
  .of_wp fun prog w A R s h => by
    obtain ⟨hp, g, d, tk, os⟩ := s; obtain ⟨hl, h⟩ := h
    wp_walk
    exact ⟨_, rfl, h⟩
theorem tm_three (l : Addr) (v : Value) (n : Nat) (u : Tok) :
    Meets (Builtin.«tuple.__mul__» ⟨[.ref l, .int 3 u], []⟩) (fun _ R s => s.heap.get? l = some { cls := .type "tuple", dict := none, data := .seq #[v] n, slots := #[] } ∧ R (.ok (.ret (Value.ref s.heap.objs.size))) { s with heap := s.heap.push { cls := Value.type "tuple", data := Data.seq #[v, v, v] }, toks := s.toks }) :=
  .of_wp fun prog w A R s h => by
    obtain ⟨hp, g, d, tk, os⟩ := s; obtain ⟨hl, h⟩ := h
    wp_walk
    exact ⟨_, rfl, h⟩
theorem tm_rmul (a : Int) (t : Tok) (l : Addr) (items : Array Value) (n : Nat) :
    Meets (Builtin.«int.__rmul__» ⟨[.int a t, .ref l], []⟩) (fun _ R s => s.heap.get? l = some { cls := .type "tuple", dict := none, data := .seq items n, slots := #[] } ∧ R (.ok (.ret Value.notImplemented)) s) :=
  .of_wp fun prog w A R s h => by obtain ⟨hp, g, d, tk, os⟩ := s; obtain ⟨hl, h⟩ := h; wp_walk; exact ⟨_, rfl, h⟩
theorem noFill_tuple_mul : fillsNumberSlot (.type "tuple") "mul" = pure false :=
  PySem.fillsNumberSlot_seq (id := "tuple.__mul__") (r := some (.builtin "tuple.__rmul__")) F.slot_tuple_mul.lookup (by decide +kernel) F.slot_tuple_rmul.lookup (by decide +kernel)
theorem repeat_tuple : seqRepeat? (.type "tuple") = pure (some (.builtin "tuple.__mul__")) := by
  unfold seqRepeat?
  rw [PySem.seqSlot_of (T := "tuple") (name := "__mul__") (id := "tuple.__mul__") F.slot_tuple_mul.lookup (by decide +kernel), PySem.seqSlot_of (T := "tuple") (name := "__rmul__") (id := "tuple.__rmul__") F.slot_tuple_rmul.lookup (by decide +kernel)]
  rfl
section
variable {prog : Program} {w : World} {A : Around} {E : Value → Shared → Prop} {s : Shared} {h₀ : Heap} {L : Addr} {m : Str → Option Value} {news : List (Addr × Obj)} {l : Addr} {v : Value} {n : Nat} {u : Tok} {Q : Value → Shared → Prop}
theorem mul_go {x : Int} {P : (Result → Shared → Prop) → Shared → Prop} (N : News h₀ L s.heap news) (hl : (l, tupO [v] n) ∈ news)
    (hM : Meets (Builtin.«tuple.__mul__» ⟨[.ref l, .int x u], []⟩) (fun _ R s => s.heap.get? l = some { cls := .type "tuple", dict := none, data := .seq #[v] n, slots := #[] } ∧ P R s))
    (h : P (fun r s' => match r with | .ok (.ret v) => Q v s' | .ok _ => False | .error e => E e s') s) : wpAny (model prog w) A (binaryOp .Mult (.ref l) (.int x u)) Q E s := by
  have ho : s.heap.get? l = some { cls := .type "tuple", dict := none, data := .seq #[v] n, slots := #[] } := (N _ hl).1
  refine wpAny_binaryOp_repeat_ref (T := "tuple") (U := "int") (by decide) ⟨_, ho, rfl⟩ (fun s' => typeIs_int s' x u) noFill_tuple_mul F.fills_int_mul F.slot_int_rmul repeat_tuple F.slot_int_index.lookup
    (call_meets F.slot_int_rmul (typeIs_int s x u) F.entry_int_rmul (F.args_int_rmul_2 _ _) (tm_rmul x u l #[v] n)
      ⟨ho, rfl, ⟨_, ho, rfl⟩, call_meets F.slot_tuple_mul ⟨_, ho, rfl⟩ F.entry_tuple_mul (F.args_tuple_mul_2 _ _) hM ⟨ho, h⟩⟩)
theorem mul_t1 (N : News h₀ L s.heap news) (hl : (l, tupO [v] n) ∈ news) (h : Q (.ref l) s) : wpAny (model prog w) A (binaryOp .Mult (.ref l) (.int 1 u)) Q E s := mul_go N hl (tm_one l v n u) h
theorem mul_t0 (F : Fr h₀ L s.heap m) (N : News h₀ L s.heap news) (hl : (l, tupO [v] n) ∈ news) (h : ∀ D h', Fr h₀ L h' m → News h₀ L h' ((D, tupO [] 0) :: news) → (∀ p ∈ news, p.1 < D) → Q (.ref D) { s with heap := h' }) : wpAny (model prog w) A (binaryOp .Mult (.ref l) (.int 0 u)) Q E s :=
  mul_go N hl (tm_zero l v n u) (h _ _ (F.push _) (News.push F N _) fun p hp => Heap.lt_size (N p hp).1)
theorem mul_t2 (F : Fr h₀ L s.heap m) (N : News h₀ L s.heap news) (hl : (l, tupO [v] n) ∈ news) (h : ∀ D h', Fr h₀ L h' m → News h₀ L h' ((D, tupO [v, v] 0) :: news) → (∀ p ∈ news, p.1 < D) → Q (.ref D) { s with heap := h' }) : wpAny (model prog w) A (binaryOp .Mult (.ref l) (.int 2 u)) Q E s :=
  mul_go N hl (tm_two l v n u) (h _ _ (F.push _) (News.push F N _) fun p hp => Heap.lt_size (N p hp).1)
theorem mul_t3 (F : Fr h₀ L s.heap m) (N : News h₀ L s.heap news) (hl : (l, tupO [v] n) ∈ news) (h : ∀ D h', Fr h₀ L h' m → News h₀ L h' ((D, tupO [v, v, v] 0) :: news) → (∀ p ∈ news, p.1 < D) → Q (.ref D) { s with heap := h' }) : wpAny (model prog w) A (binaryOp .Mult (.ref l) (.int 3 u)) Q E s :=
  mul_go N hl (tm_three l v n u) (h _ _ (F.push _) (News.push F N _) fun p hp => Heap.lt_size (N p hp).1)
end
end
section
noncomputable abbrev Pl := Nat × List Dat
noncomputable abbrev St.pl (s : St) : Pl := (s.i, s.gs)
noncomputable def sgn (T : List Nat) (op : Op) (p : Pl) : List Pl := Option.elim T[p.1]? [] fun k => if takesB op k = true then [(p.1 + 1, p.2)] else []
theorem sgn_mem {T : List Nat} {op : Op} {p q : Pl} (hq : q ∈ sgn T op p) : p.1 < T.length ∧ q = (p.1 + 1, p.2) := by
  replace hq : q ∈ Option.elim T[p.1]? [] fun k => if takesB op k = true then [(p.1 + 1, p.2)] else [] := hq
  cases hk : T[p.1]? with
  | none => rw [hk] at hq; cases hq
  | some k =>
    rw [hk] at hq
    replace hq : q ∈ if takesB op k = true then [(p.1 + 1, p.2)] else [] := hq
    by_cases h : takesB op k = true
    · rw [if_pos h] at hq; exact ⟨(List.getElem?_eq_some_iff.mp hk).1, List.mem_singleton.mp hq⟩
    · rw [if_neg h] at hq; cases hq
noncomputable def evRep (body : Pl → List Pl) (lo : Int) (mo : Option Int) (lz : Bool) : Nat → Int → Pl → List Pl
  | 0, _, _ => []
  | f + 1, c, p =>
    if mo.any (· ≤ c) = true then [p]
    else if c < lo then (body p).flatMap (evRep body lo mo lz f (c + 1))
    else if lz = true then p :: (body p).flatMap (evRep body lo mo lz f (c + 1))
    else (body p).flatMap (evRep body lo mo lz f (c + 1)) ++ [p]
noncomputable def backE (T : List Nat) (n : Nat) (p : Pl) : List Pl := Option.elim p.2[n - 1]? [] fun d => cond (isNoD d) [p] (Option.elim (asBE d) [] fun q =>
  if (T.drop q.1).take (q.2 - q.1) = (T.drop p.1).take (q.2 - q.1) then [(p.1 + (q.2 - q.1), p.2)] else [])
namespace Pat
noncomputable def ev (T : List Nat) : Pat → Pl → List Pl
  | chr c, p => sgn T (.chr c) p
  | any, p => sgn T .any p
  | cls, p => sgn T .cls p
  | fin, p => if p.1 = T.length then [p] else []
  | back n, p => backE T n p
  | seq2 a b, p => (a.ev T p).flatMap (b.ev T)
  | seq3 a b c, p => (a.ev T p).flatMap fun q => (b.ev T q).flatMap (c.ev T)
  | alt2 a b, p => a.ev T p ++ b.ev T p
  | grp t, p => t.ev T p
  | grpN n t, p => (t.ev T p).flatMap fun q => [(q.1, q.2.set (n - 1) (.tuple [.int p.1, .int q.1]))]
  | rep lo mo lz t, p => evRep (t.ev T) lo mo lz (T.length + 1) 0 p
noncomputable def adv : Pat → Bool
  | chr _ | any | cls => true
  | seq2 a b => a.adv || b.adv
  | seq3 a b c => a.adv || b.adv || c.adv
  | alt2 a b => a.adv && b.adv
  | grp t | grpN _ t => t.adv
  | fin | back _ | rep _ _ _ _ => false
noncomputable def touch : Pat → Nat → Nat → Nat → Prop
  | seq2 a b, k, L, q | alt2 a b, k, L, q => a.touch k L q ∨ b.touch (k + a.loops) L q
  | seq3 a b c, k, L, q => a.touch k L q ∨ b.touch (k + a.loops) L q ∨ c.touch (k + a.loops + b.loops) L q
  | grp t, k, L, q => t.touch k L q
  | grpN n t, k, L, q => q = L - n ∨ t.touch k L q
  | rep _ _ _ t, k, L, q => q = k ∨ t.touch (k + 1) L q
  | chr _, _, _, _ | any, _, _, _ | cls, _, _, _ | fin, _, _, _ | back _, _, _, _ => False
noncomputable def Wf : Pat → Nat → Nat → Nat → Prop
  | seq2 a b, k, L, G | alt2 a b, k, L, G => a.Wf k L G ∧ b.Wf (k + a.loops) L G
  | seq3 a b c, k, L, G => a.Wf k L G ∧ b.Wf (k + a.loops) L G ∧ c.Wf (k + a.loops + b.loops) L G
  | grp t, k, L, G => t.Wf k L G
  | grpN n t, k, L, G => 1 ≤ n ∧ n ≤ G ∧ n ≤ L ∧ ¬ t.touch k L (L - n) ∧ t.Wf k L G
  | back n, _, _, G => 1 ≤ n ∧ n ≤ G
  | rep _ _ _ t, k, L, G => k < L ∧ t.adv = true ∧ ¬ t.touch (k + 1) L k ∧ t.Wf (k + 1) L G
  | chr _, _, _, _ | any, _, _, _ | cls, _, _, _ | fin, _, _, _ => True
end Pat
noncomputable def rl (a : Nat) : Nat → Nat
  | 0 => 0
  | f + 1 => 1 + a * rl a f
noncomputable def rc (a c : Nat) : Nat → Nat
  | 0 => 0
  | f + 1 => 1 + c + a * (1 + rc a c f)
namespace Pat
noncomputable def lv : Pat → Nat
  | seq2 a b => a.lv * b.lv
  | seq3 a b c => a.lv * (b.lv * c.lv)
  | alt2 a b => a.lv + b.lv
  | grp t => t.lv
  | grpN _ t => t.lv * 1
  | rep _ _ _ t => rl t.lv 4
  | chr _ | any | cls | fin | back _ => 1
noncomputable def cst : Pat → Nat
  | seq2 a b => a.cst + a.lv * b.cst
  | seq3 a b c => a.cst + a.lv * (b.cst + b.lv * c.cst)
  | alt2 a b => 1 + (a.cst + a.lv) + b.cst
  | grp t => t.cst
  | grpN _ t => 1 + (t.cst + t.lv * 1)
  | rep _ _ _ t => 1 + rc t.lv t.cst 4
  | chr _ | any | cls | fin | back _ => 1
end Pat
noncomputable def Good (T : List Nat) (G : Nat) (gs : List Dat) : Prop := gs.length = G ∧ ∀ d ∈ gs, d = .none ∨ ∃ b e : Nat, d = .tuple [.int b, .int e] ∧ b ≤ e ∧ e ≤ T.length
noncomputable def Fine (T : List Nat) (G : Nat) (p q : Pl) : Prop := p.1 ≤ q.1 ∧ q.1 ≤ T.length ∧ Good T G q.2
theorem good_set {T : List Nat} {G : Nat} {gs : List Dat} (h : Good T G gs) (n b e : Nat) (h1 : b ≤ e) (h2 : e ≤ T.length) : Good T G (gs.set n (.tuple [.int b, .int e])) := by
  refine ⟨by rw [List.length_set]; exact h.1, fun d hd => ?_⟩
  rcases List.mem_or_eq_of_mem_set hd with hd | rfl
  · exact h.2 d hd
  · exact .inr ⟨b, e, rfl, h1, h2⟩
theorem Fine.trans {T : List Nat} {G : Nat} {p q r : Pl} (h : Fine T G p q) (k : Fine T G q r) : Fine T G p r := ⟨Nat.le_trans h.1 k.1, k.2⟩
theorem sgn_fine {T : List Nat} {G : Nat} {op : Op} {p q : Pl} (h : Fine T G p p) (hq : q ∈ sgn T op p) : Fine T G p q ∧ p.1 < q.1 := by
  obtain ⟨h1, rfl⟩ := sgn_mem hq
  exact ⟨⟨Nat.le_succ _, h1, h.2.2⟩, Nat.lt_succ_self _⟩
theorem mem_if {c : Prop} [Decidable c] {l m : List Pl} {q : Pl} (h : q ∈ if c then l else m) : q ∈ l ∨ q ∈ m := by
  by_cases e : c
  · rw [if_pos e] at h; exact .inl h
  · rw [if_neg e] at h; exact .inr h
theorem or3 {a b c : Bool} (h : (a || b || c) = true) : a = true ∨ b = true ∨ c = true := (Bool.or_eq_true_iff.mp h).elim (fun h => (Bool.or_eq_true_iff.mp h).imp id .inl) fun h => .inr (.inr h)
theorem rep_fine {T : List Nat} {G : Nat} {body : Pl → List Pl} {lo : Int} {mo : Option Int} {lz : Bool} (hb : ∀ p, Fine T G p p → ∀ q ∈ body p, Fine T G p q) : ∀ (f : Nat) (c : Int) (p : Pl), Fine T G p p → ∀ q ∈ evRep body lo mo lz f c p, Fine T G p q := by
  intro f
  induction f with
  | zero => intro c p h q hq; cases hq
  | succ f ih =>
    intro c p h q hq
    have hf : q ∈ (body p).flatMap (evRep body lo mo lz f (c + 1)) → Fine T G p q := by
      intro hq
      obtain ⟨a, ha, hq⟩ := List.mem_flatMap.mp hq
      have h1 := hb p h a ha
      exact h1.trans (ih _ a ⟨Nat.le_refl _, h1.2⟩ q hq)
    rcases mem_if (c := mo.any (· ≤ c) = true) (l := [p]) hq with hq | hq
    · rw [List.mem_singleton.mp hq]; exact h
    rcases mem_if (c := c < lo) hq with hq | hq
    · exact hf hq
    rcases mem_if (c := lz = true) hq with hq | hq
    · rcases List.mem_cons.mp hq with rfl | hq
      · exact h
      · exact hf hq
    · rcases List.mem_append.mp hq with hq | hq
      · exact hf hq
      · rw [List.mem_singleton.mp hq]; exact h
theorem back_mem {T : List Nat} {G : Nat} {n : Nat} {p q : Pl} (h : Fine T G p p) (hq : q ∈ backE T n p) : q = p ∨ ∃ b e : Nat, p.2[n - 1]? = some (.tuple [.int b, .int e]) ∧ b ≤ e ∧ p.1 + (e - b) ≤ T.length ∧ (T.drop b).take (e - b) = (T.drop p.1).take (e - b) ∧ q = (p.1 + (e - b), p.2) := by
  replace hq : q ∈ Option.elim p.2[n - 1]? [] fun d => cond (isNoD d) [p] (Option.elim (asBE d) [] fun q => if (T.drop q.1).take (q.2 - q.1) = (T.drop p.1).take (q.2 - q.1) then [(p.1 + (q.2 - q.1), p.2)] else []) := hq
  cases hk : p.2[n - 1]? with
  | none => rw [hk] at hq; cases hq
  | some d =>
    rw [hk] at hq
    rcases h.2.2.2 d (List.mem_of_getElem? hk) with rfl | ⟨b, e, rfl, h1, h2⟩
    · exact .inl (List.mem_singleton.mp hq)
    · replace hq : q ∈ if (T.drop b).take (e - b) = (T.drop p.1).take (e - b) then [(p.1 + (e - b), p.2)] else [] := hq
      by_cases he : (T.drop b).take (e - b) = (T.drop p.1).take (e - b)
      · rw [if_pos he] at hq
        exact .inr ⟨b, e, rfl, h1, slice_len h1 h2 he h.2.1, he, List.mem_singleton.mp hq⟩
      · rw [if_neg he] at hq; cases hq
theorem back_fine {T : List Nat} {G : Nat} {n : Nat} {p q : Pl} (h : Fine T G p p) (hq : q ∈ backE T n p) : Fine T G p q := by
  rcases back_mem h hq with rfl | ⟨b, e, _, _, h3, _, rfl⟩
  · exact h
  · exact ⟨Nat.le_add_right _ _, h3, h.2.2⟩
theorem flat_fine {T : List Nat} {G : Nat} {p : Pl} {l : List Pl} {f : Pl → List Pl} (hl : ∀ q ∈ l, Fine T G p q) (hf : ∀ q, Fine T G q q → ∀ r ∈ f q, Fine T G q r) : ∀ r ∈ l.flatMap f, Fine T G p r := by
  intro r hr
  obtain ⟨q, hq, hr⟩ := List.mem_flatMap.mp hr
  have h := hl q hq
  exact h.trans (hf q ⟨Nat.le_refl _, h.2⟩ r hr)
open Pat in
theorem ev_fine {T : List Nat} {G : Nat} : ∀ (t : Pat) (p : Pl), Fine T G p p → ∀ q ∈ t.ev T p, Fine T G p q
  | chr c, p, h, q, hq => (sgn_fine h hq).1
  | any, p, h, q, hq => (sgn_fine h hq).1
  | cls, p, h, q, hq => (sgn_fine h hq).1
  | fin, p, h, q, hq => by
    rcases mem_if (c := p.1 = T.length) (l := [p]) hq with hq | hq
    · rw [List.mem_singleton.mp hq]; exact h
    · cases hq
  | back n, p, h, q, hq => back_fine h hq
  | seq2 a b, p, h, q, hq => flat_fine (ev_fine a p h) (ev_fine b) q hq
  | seq3 a b c, p, h, q, hq => flat_fine (ev_fine a p h) (fun r hr => flat_fine (ev_fine b r hr) (ev_fine c)) q hq
  | alt2 a b, p, h, q, hq => (List.mem_append.mp hq).elim (ev_fine a p h q) (ev_fine b p h q)
  | grp t, p, h, q, hq => ev_fine t p h q hq
  | grpN n t, p, h, q, hq => by
    obtain ⟨r, hr, hq⟩ := List.mem_flatMap.mp hq
    rw [List.mem_singleton.mp hq]
    have h1 := ev_fine t p h r hr
    exact ⟨h1.1, h1.2.1, good_set h1.2.2 _ _ _ h1.1 h1.2.1⟩
  | rep lo mo lz t, p, h, q, hq => rep_fine (ev_fine t) _ _ p h q hq
theorem flat_adv {T : List Nat} {G : Nat} {p : Pl} {l : List Pl} {f : Pl → List Pl} (hl : ∀ q ∈ l, Fine T G p q) (hf : ∀ q, Fine T G q q → ∀ r ∈ f q, Fine T G q r) (ho : (∀ q ∈ l, p.1 < q.1) ∨ ∀ q, Fine T G q q → ∀ r ∈ f q, q.1 < r.1) : ∀ r ∈ l.flatMap f, p.1 < r.1 := by
  intro r hr
  obtain ⟨q, hq, hr⟩ := List.mem_flatMap.mp hr
  have h := hl q hq
  have h' := hf q ⟨Nat.le_refl _, h.2⟩ r hr
  rcases ho with ho | ho
  · exact Nat.lt_of_lt_of_le (ho q hq) h'.1
  · exact Nat.lt_of_le_of_lt h.1 (ho q ⟨Nat.le_refl _, h.2⟩ r hr)
open Pat in
theorem ev_adv {T : List Nat} {G : Nat} : ∀ (t : Pat) (p : Pl), t.adv = true → Fine T G p p → ∀ q ∈ t.ev T p, p.1 < q.1
  | chr c, p, _, h, q, hq => (sgn_fine h hq).2
  | any, p, _, h, q, hq => (sgn_fine h hq).2
  | cls, p, _, h, q, hq => (sgn_fine h hq).2
  | seq2 a b, p, ha, h, q, hq => flat_adv (ev_fine a p h) (ev_fine b) ((Bool.or_eq_true _ _ ▸ ha).imp (fun ha => ev_adv a p ha h) (fun hb q => ev_adv b q hb)) q hq
  | seq3 a b c, p, ha, h, q, hq => by
    have ha := or3 ha
    exact flat_adv (ev_fine a p h) (fun r hr => flat_fine (ev_fine b r hr) (ev_fine c)) (ha.imp (fun ha => ev_adv a p ha h) (fun hb q hq => flat_adv (ev_fine b q hq) (ev_fine c) (hb.imp (fun hb => ev_adv b q hb hq) (fun hc q => ev_adv c q hc)))) q hq
  | alt2 a b, p, ha, h, q, hq => by
    have ha := Bool.and_eq_true_iff.mp ha
    exact (List.mem_append.mp hq).elim (ev_adv a p ha.1 h q) (ev_adv b p ha.2 h q)
  | grp t, p, ha, h, q, hq => ev_adv t p ha h q hq
  | grpN n t, p, ha, h, q, hq => by
    obtain ⟨r, hr, hq⟩ := List.mem_flatMap.mp hq
    rw [List.mem_singleton.mp hq]
    exact ev_adv t p ha h r hr
end
section
noncomputable def ExL (C : List Op) (T : List Nat) (S L : List St) (c : Nat) : Prop := ∀ (Pre W : List St) (n : Nat) (r : Option (Nat × List Dat)), Out C T n (Pre ++ (L ++ W)) r → ∃ m, m ≤ n + c ∧ Out C T m (Pre ++ (S ++ W)) r
theorem out_pre {C : List Op} {T : List Nat} {n : Nat} {st : List St} {r : Option (Nat × List Dat)} (h : Out C T n st r) : ∀ (X Y Pre : List St) (c : Nat), st = Pre ++ Y → (∀ n r, Out C T n Y r → ∃ m, m ≤ n + c ∧ Out C T m X r) → ∃ m, m ≤ n + c ∧ Out C T m (Pre ++ X) r := by
  induction h with
  | nil =>
    intro X Y Pre c e hh
    obtain ⟨rfl, rfl⟩ := List.append_eq_nil_iff.mp e.symm
    exact hh _ _ .nil
  | met hm =>
    intro X Y Pre c e hh
    cases Pre with
    | nil => obtain rfl : Y = _ := e.symm; exact hh _ _ (.met hm)
    | cons p P => injection e with e1 e2; subst e1; exact ⟨1, by lia -abstractProof, .met hm⟩
  | step hm hf hn ih =>
    intro X Y Pre c e hh
    cases Pre with
    | nil => obtain rfl : Y = _ := e.symm; exact hh _ _ (.step hm hf hn)
    | cons p P =>
      injection e with e1 e2
      subst e1 e2
      obtain ⟨m, h1, h2⟩ := ih X Y _ c (List.append_assoc _ P Y).symm hh
      exact ⟨m + 1, by lia -abstractProof, .step hm hf (by rw [List.append_assoc] at h2; exact h2)⟩
theorem exL_of {C : List Op} {T : List Nat} {s : St} {L : List St} {c : Nat} (h : ∀ W n r, Out C T n (L ++ W) r → ∃ m, m ≤ n + c ∧ Out C T m (s :: W) r) : ExL C T [s] L c := fun Pre W _ _ ho => out_pre ho (s :: W) (L ++ W) Pre c rfl (h W)
theorem ExL.refl {C : List Op} {T : List Nat} (S : List St) : ExL C T S S 0 := fun _ _ n _ h => ⟨n, Nat.le_refl _, h⟩
theorem ExL.trans {C : List Op} {T : List Nat} {S M L : List St} {a b : Nat} (h : ExL C T S M a) (k : ExL C T M L b) : ExL C T S L (a + b) := fun P W n r ho => by
  obtain ⟨m, h1, h2⟩ := k P W n r ho
  obtain ⟨m', h3, h4⟩ := h P W m r h2
  exact ⟨m', by lia -abstractProof, h4⟩
theorem ExL.append {C : List Op} {T : List Nat} {S S' L L' : List St} {a b : Nat} (h : ExL C T S L a) (k : ExL C T S' L' b) : ExL C T (S ++ S') (L ++ L') (a + b) := fun P W n r ho => by
  obtain ⟨m, h1, h2⟩ := k (P ++ L) W n r (by simpa only [List.append_assoc] using ho)
  obtain ⟨m', h3, h4⟩ := h P (S' ++ W) m r (by simpa only [List.append_assoc] using h2)
  exact ⟨m', by lia -abstractProof, by simpa only [List.append_assoc] using h4⟩
theorem ExL.mono {C : List Op} {T : List Nat} {S L : List St} {a b : Nat} (h : ExL C T S L a) (k : a ≤ b) : ExL C T S L b := fun P W n r ho => by
  obtain ⟨m, h1, h2⟩ := h P W n r ho
  exact ⟨m, by lia -abstractProof, h2⟩
theorem ex_step {C : List Op} {T : List Nat} {s : St} {op : Op} (h : C[s.pc]? = some op) (hf : Fit T op s) : ExL C T [s] (succ T op s) 1 := exL_of fun _ n _ ho => ⟨n + 1, Nat.le_refl _, .step h hf ho⟩
noncomputable def Keep (P : Nat → Prop) (ls ls' : List Dat) : Prop := ls'.length = ls.length ∧ ∀ q, ¬ P q → ls'[q]? = ls[q]?
theorem Keep.rfl' {P : Nat → Prop} {ls : List Dat} : Keep P ls ls := ⟨rfl, fun _ _ => rfl⟩
theorem Keep.mono {P P' : Nat → Prop} {ls ls' : List Dat} (h : Keep P ls ls') (k : ∀ q, P q → P' q) : Keep P' ls ls' := ⟨h.1, fun q hq => h.2 q fun hp => hq (k q hp)⟩
theorem Keep.trans {P : Nat → Prop} {a b c : List Dat} (h : Keep P a b) (k : Keep P b c) : Keep P a c := ⟨k.1.trans h.1, fun q hq => (k.2 q hq).trans (h.2 q hq)⟩
theorem Keep.set {P : Nat → Prop} {a : List Dat} {q : Nat} {v : Dat} (h : P q) : Keep P a (a.set q v) := ⟨List.length_set, fun p hp => List.getElem?_set_ne fun e => hp (by rw [← e]; exact h)⟩
noncomputable def Go (C : List Op) (T : List Nat) (s : St) (qs : List Pl) (pc' : Nat) (P : Nat → Prop) (c : Nat) : Prop := ∃ L : List St, L.map St.pl = qs ∧ (∀ a ∈ L, a.pc = pc' ∧ Keep P s.ls a.ls) ∧ ExL C T [s] L c
theorem Go.mono {C : List Op} {T : List Nat} {s : St} {qs : List Pl} {pc' : Nat} {P P' : Nat → Prop} {c c' : Nat} (h : Go C T s qs pc' P c) (hp : ∀ q, P q → P' q) (hc : c ≤ c') : Go C T s qs pc' P' c' := by
  obtain ⟨L, h1, h2, h3⟩ := h
  exact ⟨L, h1, fun a ha => ⟨(h2 a ha).1, (h2 a ha).2.mono hp⟩, h3.mono hc⟩
theorem go_all {C : List Op} {T : List Nat} {ls : List Dat} {f : Pl → List Pl} {pc' : Nat} {P : Nat → Prop} {c : Nat} : ∀ M : List St, (∀ a ∈ M, Go C T a (f a.pl) pc' P c ∧ Keep P ls a.ls) → ∃ L : List St, L.map St.pl = (M.map St.pl).flatMap f ∧ (∀ a ∈ L, a.pc = pc' ∧ Keep P ls a.ls) ∧ ExL C T M L (M.length * c)
  | [], _ => ⟨[], rfl, nofun, (ExL.refl _).mono (Nat.zero_le _)⟩
  | m :: M, h => by
    obtain ⟨L, h1, h2, h3⟩ := go_all M fun a ha => h a (.tail _ ha)
    obtain ⟨⟨L', h4, h5, h6⟩, h7⟩ := h m (.head _)
    refine ⟨L' ++ L, by rw [List.map_append, h4, h1]; rfl, fun a ha => ?_, ?_⟩
    · rcases List.mem_append.mp ha with ha | ha
      · exact ⟨(h5 a ha).1, h7.trans (h5 a ha).2⟩
      · exact h2 a ha
    · have := h6.append h3
      refine this.mono ?_
      rw [List.length_cons, Nat.add_mul]; lia -abstractProof
theorem Go.bind {C : List Op} {T : List Nat} {s : St} {qs : List Pl} {pc1 pc' : Nat} {P1 P2 P : Nat → Prop} {c1 c2 l c : Nat} {f : Pl → List Pl} (h : Go C T s qs pc1 P1 c1) (hl : qs.length ≤ l) (hf : ∀ a : St, a.pc = pc1 → Keep P1 s.ls a.ls → a.pl ∈ qs → Go C T a (f a.pl) pc' P2 c2) (hp1 : ∀ q, P1 q → P q) (hp2 : ∀ q, P2 q → P q) (hc : c1 + l * c2 ≤ c) : Go C T s (qs.flatMap f) pc' P c := by
  obtain ⟨M, h1, h2, h3⟩ := h
  obtain ⟨L, h4, h5, h6⟩ := go_all (f := f) (C := C) (T := T) (ls := s.ls) (pc' := pc') (P := P) (c := c2) M fun a ha => ⟨(hf a (h2 a ha).1 (h2 a ha).2 (h1 ▸ List.mem_map_of_mem ha)).mono hp2 (Nat.le_refl _), (h2 a ha).2.mono hp1⟩
  refine ⟨L, by rw [h4, h1], h5, (h3.trans h6).mono ?_⟩
  have : M.length = qs.length := by rw [← h1, List.length_map]
  rw [this]
  exact Nat.le_trans (Nat.add_le_add_left (Nat.mul_le_mul_right _ hl) _) hc
theorem Go.leaf {C : List Op} {T : List Nat} {s : St} {P : Nat → Prop} : Go C T s [s.pl] s.pc P 0 := ⟨[s], rfl, fun a ha => by rw [List.mem_singleton.mp ha]; exact ⟨rfl, Keep.rfl'⟩, ExL.refl _⟩
theorem Go.nil {C : List Op} {T : List Nat} {s : St} {op : Op} {P : Nat → Prop} {pc' : Nat} (h : C[s.pc]? = some op) (hf : Fit T op s) (hs : succ T op s = []) : Go C T s [] pc' P 1 := ⟨[], rfl, nofun, by have := ex_step h hf; rw [hs] at this; exact this⟩
theorem Go.one {C : List Op} {T : List Nat} {s a : St} {op : Op} {P : Nat → Prop} {pc' c : Nat} {qs : List Pl} (h : C[s.pc]? = some op) (hf : Fit T op s) (hs : succ T op s = [a]) (hk : Keep P s.ls a.ls) (hg : Go C T a qs pc' P c) : Go C T s qs pc' P (1 + c) := by
  obtain ⟨L, h1, h2, h3⟩ := hg
  have := ex_step h hf
  rw [hs] at this
  exact ⟨L, h1, fun b hb => ⟨(h2 b hb).1, hk.trans (h2 b hb).2⟩, this.trans h3⟩
theorem Go.two {C : List Op} {T : List Nat} {s a b : St} {op : Op} {P : Nat → Prop} {pc' c c' : Nat} {qs ps : List Pl} (h : C[s.pc]? = some op) (hf : Fit T op s) (hs : succ T op s = [a, b]) (hk : Keep P s.ls a.ls) (hk' : Keep P s.ls b.ls) (hg : Go C T a qs pc' P c) (hg' : Go C T b ps pc' P c') : Go C T s (qs ++ ps) pc' P (1 + c + c') := by
  obtain ⟨L, h1, h2, h3⟩ := hg
  obtain ⟨L', h4, h5, h6⟩ := hg'
  have := ex_step h hf
  rw [hs] at this
  refine ⟨L ++ L', by rw [List.map_append, h1, h4], fun x hx => ?_, ?_⟩
  · rcases List.mem_append.mp hx with hx | hx
    · exact ⟨(h2 x hx).1, hk.trans (h2 x hx).2⟩
    · exact ⟨(h5 x hx).1, hk'.trans (h5 x hx).2⟩
  · have e := this.trans (ExL.append h3 h6)
    rw [← Nat.add_assoc] at e
    exact e
theorem Go.eq {C : List Op} {T : List Nat} {s : St} {qs qs' : List Pl} {pc' pc'' : Nat} {P : Nat → Prop} {c : Nat} (h : Go C T s qs pc' P c) (e : qs = qs') (e' : pc' = pc'') : Go C T s qs' pc'' P c := by subst e e'; exact h
noncomputable def Laid (C : List Op) (pc : Nat) (ops : List Op) : Prop := ∀ j op, ops[j]? = some op → C[pc + j]? = some op
theorem Laid.cons {C : List Op} {pc : Nat} {op : Op} {ops : List Op} (h : Laid C pc (op :: ops)) : C[pc]? = some op ∧ Laid C (pc + 1) ops := ⟨h 0 op rfl, fun j o ho => by have := h (j + 1) o (by rw [List.getElem?_cons_succ]; exact ho); rw [Nat.add_assoc, Nat.add_comm 1]; exact this⟩
theorem Laid.app {C : List Op} {pc : Nat} {a b : List Op} (h : Laid C pc (a ++ b)) : Laid C pc a ∧ Laid C (pc + a.length) b := ⟨fun j o ho => h j o (by rw [List.getElem?_append_left (List.getElem?_eq_some_iff.mp ho).1]; exact ho), fun j o ho => by have := h (a.length + j) o (by rw [List.getElem?_append_right (Nat.le_add_right _ _), Nat.add_sub_cancel_left]; exact ho); rw [Nat.add_assoc]; exact this⟩
theorem flat_len {f : Pl → List Pl} {b : Nat} (hf : ∀ p, (f p).length ≤ b) : ∀ l : List Pl, (l.flatMap f).length ≤ l.length * b
  | [] => Nat.zero_le _
  | x :: l => by
    have := flat_len hf l
    have := hf x
    rw [List.flatMap_cons, List.length_append, List.length_cons, Nat.add_mul]; lia -abstractProof
theorem flat_le {f : Pl → List Pl} {a b : Nat} {l : List Pl} (h : l.length ≤ a) (hf : ∀ p, (f p).length ≤ b) : (l.flatMap f).length ≤ a * b := Nat.le_trans (flat_len hf l) (Nat.mul_le_mul_right _ h)
theorem len_if {c : Prop} [Decidable c] {l m : List Pl} {n : Nat} (h : l.length ≤ n) (k : m.length ≤ n) : (if c then l else m).length ≤ n := by
  by_cases e : c
  · rw [if_pos e]; exact h
  · rw [if_neg e]; exact k
theorem rep_len {body : Pl → List Pl} {lo : Int} {mo : Option Int} {lz : Bool} {a : Nat} (hb : ∀ p, (body p).length ≤ a) : ∀ (f : Nat) (c : Int) (p : Pl), (evRep body lo mo lz f c p).length ≤ rl a f := by
  intro f
  induction f with
  | zero => intro c p; exact Nat.le_refl _
  | succ f ih =>
    intro c p
    have h := flat_le (hb p) (ih (c + 1))
    refine len_if (c := mo.any (· ≤ c) = true) (l := [p]) (Nat.le_add_right 1 _) (len_if (Nat.le_trans h (Nat.le_add_left _ 1)) (len_if ?_ ?_))
    · exact Nat.le_trans (Nat.succ_le_succ h) (Nat.le_of_eq (Nat.add_comm _ 1))
    · rw [List.length_append]
      exact Nat.le_trans (Nat.succ_le_succ h) (Nat.le_of_eq (Nat.add_comm _ 1))
theorem rl_mono (a : Nat) : ∀ f, rl a f ≤ rl a (f + 1)
  | 0 => Nat.zero_le _
  | f + 1 => by have := Nat.mul_le_mul_left a (rl_mono a f); simp only [rl] at this ⊢; lia -abstractProof
theorem rl_le {a f g : Nat} (h : f ≤ g) : rl a f ≤ rl a g := by
  induction h with
  | refl => exact Nat.le_refl _
  | step _ ih => exact Nat.le_trans ih (rl_mono a _)
theorem rc_mono (a c : Nat) : ∀ f, rc a c f ≤ rc a c (f + 1)
  | 0 => Nat.zero_le _
  | f + 1 => by have := Nat.mul_le_mul_left a (Nat.add_le_add_left (rc_mono a c f) 1); simp only [rc] at this ⊢; lia -abstractProof
theorem rc_le {a c f g : Nat} (h : f ≤ g) : rc a c f ≤ rc a c g := by
  induction h with
  | refl => exact Nat.le_refl _
  | step _ ih => exact Nat.le_trans ih (rc_mono a c _)
theorem len_opt {α : Type} {o : Option α} {f : α → List Pl} {n : Nat} (h : ∀ k, (f k).length ≤ n) : (Option.elim o [] f).length ≤ n := by
  cases o with
  | none => exact Nat.zero_le _
  | some k => exact h k
theorem len_cond {c : Bool} {l m : List Pl} {n : Nat} (h : l.length ≤ n) (k : m.length ≤ n) : (cond c l m).length ≤ n := by cases c; exact k; exact h
theorem sgn_len (T : List Nat) (op : Op) (p : Pl) : (sgn T op p).length ≤ 1 := len_opt fun _ => len_if (Nat.le_refl _) (Nat.zero_le _)
theorem back_len (T : List Nat) (n : Nat) (p : Pl) : (backE T n p).length ≤ 1 := len_opt fun _ => len_cond (Nat.le_refl _) (len_opt fun _ => len_if (Nat.le_refl _) (Nat.zero_le _))
end
section
theorem fine_self {T : List Nat} {G : Nat} {p q : Pl} (h : Fine T G p q) : Fine T G q q := ⟨Nat.le_refl _, h.2⟩
theorem go_sgn {C : List Op} {T : List Nat} {s : St} {op : Op} {P : Nat → Prop} (h : C[s.pc]? = some op) (hf : Fit T op s) (hs : succ T op s = Option.elim T[s.i]? [] fun k => if takesB op k = true then [⟨s.pc + 1, s.i + 1, s.gs, s.ls⟩] else []) : Go C T s (sgn T op s.pl) (s.pc + 1) P 1 := by
  show Go C T s (Option.elim T[s.i]? [] fun k => if takesB op k = true then [(s.i + 1, s.gs)] else []) (s.pc + 1) P 1
  cases e : T[s.i]? with
  | none => rw [e] at hs; exact .nil h hf hs
  | some k =>
    rw [e] at hs
    replace hs : succ T op s = if takesB op k = true then [⟨s.pc + 1, s.i + 1, s.gs, s.ls⟩] else [] := hs
    show Go C T s (if takesB op k = true then [(s.i + 1, s.gs)] else []) (s.pc + 1) P 1
    by_cases e2 : takesB op k = true
    · rw [if_pos e2] at hs ⊢; exact .one h hf hs Keep.rfl' .leaf
    · rw [if_neg e2] at hs ⊢; exact .nil h hf hs
theorem set_get {ls : List Dat} {k : Nat} (v : Dat) (h : k < ls.length) : (ls.set k v)[k]? = some v := List.getElem?_set_self h
theorem rep_head {C : List Op} {T : List Nat} {G Lq k pc out m : Nat} {body : Pl → List Pl} {lo : Int} {mo : Option Int} {lz : Bool} {PB : Nat → Prop} {cB l : Nat}
    (hB : ∀ s : St, s.pc = pc + 2 → s.ls.length = Lq → Fine T G s.pl s.pl → Go C T s (body s.pl) m PB cB)
    (hl : ∀ p, (body p).length ≤ l) (hbf : ∀ p, Fine T G p p → ∀ q ∈ body p, Fine T G p q) (hba : ∀ p, Fine T G p p → ∀ q ∈ body p, p.1 < q.1)
    (hh : C[pc + 1]? = some (.head k lo mo lz out)) (ht : C[m]? = some (.tail k lo (pc + 1))) (hk : k < Lq) (hPk : ¬ PB k) :
    ∀ (f : Nat) (c : Int) (s : St), s.pc = pc + 1 → s.ls.length = Lq → (∃ b : Int, s.ls[k]? = some (.tuple [.int c, .int b])) → Fine T G s.pl s.pl → T.length < s.i + f →
      Go C T s (evRep body lo mo lz f c s.pl) out (fun q => q = k ∨ PB q) (rc l cB f) := by
  intro f
  induction f with
  | zero => intro c s _ _ _ h4 h5; exact absurd h4.2.1 (by show ¬ s.i ≤ _; lia -abstractProof)
  | succ f ih =>
    intro c s h1 h2 h3 h4 h5
    obtain ⟨b, h3⟩ := h3
    have hop : C[s.pc]? = some (.head k lo mo lz out) := by rw [h1]; exact hh
    have hf : Fit T (.head k lo mo lz out) s := ⟨c, b, h3⟩
    have hs := succ_head (T := T) (out := out) (lo := lo) (mo := mo) (lz := lz) h3
    have once : Go C T ⟨s.pc + 1, s.i, s.gs, s.ls.set k (.tuple [.int c, .int s.i])⟩ ((body s.pl).flatMap (evRep body lo mo lz f (c + 1))) out (fun q => q = k ∨ PB q) (cB + l * (1 + rc l cB f)) := by
      have hlen : (s.ls.set k (.tuple [.int c, .int s.i])).length = Lq := by rw [List.length_set]; exact h2
      have hg := hB ⟨s.pc + 1, s.i, s.gs, s.ls.set k (.tuple [.int c, .int s.i])⟩ (by rw [h1]) hlen h4
      refine hg.bind (hl _) (fun a ha1 ha2 ha3 => ?_) (fun q h => .inr h) (fun q h => h) (Nat.le_refl _)
      have hlt : s.i < a.i := hba _ h4 _ ha3
      have hfa : Fine T G a.pl a.pl := fine_self (hbf _ h4 _ ha3)
      have hak : a.ls[k]? = some (.tuple [.int c, .int s.i]) := (ha2.2 k hPk).trans (set_get _ (by rw [h2]; exact hk))
      have hal : a.ls.length = Lq := ha2.1.trans hlen
      refine .one (op := .tail k lo (pc + 1)) (a := ⟨pc + 1, a.i, a.gs, a.ls.set k (.tuple [.int (c + 1), .int a.i])⟩) (by rw [ha1]; exact ht) ⟨c, s.i, hak⟩ ?_ (Keep.set (.inl rfl)) ?_
      · exact (succ_tail hak).trans (if_neg (by lia -abstractProof))
      · exact ih (c + 1) ⟨pc + 1, a.i, a.gs, a.ls.set k (.tuple [.int (c + 1), .int a.i])⟩ rfl (by show (a.ls.set _ _).length = _; rw [List.length_set]; exact hal) ⟨a.i, set_get _ (by rw [hal]; exact hk)⟩ hfa (by show T.length < a.i + f; lia -abstractProof)
    have lf : Go C T ⟨out, s.i, s.gs, s.ls⟩ [s.pl] out (fun q => q = k ∨ PB q) 0 := Go.leaf (s := ⟨out, s.i, s.gs, s.ls⟩)
    have kp : Keep (fun q => q = k ∨ PB q) s.ls (s.ls.set k (.tuple [.int c, .int s.i])) := Keep.set (.inl rfl)
    simp only [evRep, rc]
    by_cases e1 : mo.any (· ≤ c) = true
    · rw [if_pos e1] at hs ⊢
      exact (Go.one hop hf hs Keep.rfl' lf).mono (fun _ h => h) (by lia -abstractProof)
    · rw [if_neg e1] at hs ⊢
      by_cases e2 : c < lo
      · rw [if_pos e2] at hs ⊢
        exact (Go.one hop hf hs kp once).mono (fun _ h => h) (by lia -abstractProof)
      · rw [if_neg e2] at hs ⊢
        by_cases e3 : lz = true
        · rw [if_pos e3] at hs ⊢
          exact (Go.two hop hf hs Keep.rfl' kp lf once).mono (fun _ h => h) (by lia -abstractProof)
        · rw [if_neg e3] at hs ⊢
          exact (Go.two hop hf hs kp Keep.rfl' once lf).mono (fun _ h => h) (by lia -abstractProof)
theorem out_end {C : List Op} {T : List Nat} {s : St} {qs : List Pl} {pc' c : Nat} {P : Nat → Prop} (h : Go C T s qs pc' P c) (hm : C[pc']? = some .met) : ∃ n, n ≤ c + 1 ∧ Out C T n [s] qs.head? := by
  obtain ⟨L, h1, h2, h3⟩ := h
  cases L with
  | nil =>
    subst h1
    obtain ⟨m, h4, h5⟩ := h3 [] [] 0 none .nil
    exact ⟨m, by lia -abstractProof, h5⟩
  | cons a L =>
    subst h1
    obtain ⟨m, h4, h5⟩ := h3 [] [] 1 (some a.pl) (.met (by rw [(h2 a (.head _)).1]; exact hm))
    exact ⟨m, by lia -abstractProof, h5⟩
structure GP (C : List Op) (T : List Nat) (G Lq pc pc' : Nat) (f : Pl → List Pl) (P : Nat → Prop) (c l : Nat) : Prop where
  go : ∀ s : St, s.pc = pc → s.ls.length = Lq → Fine T G s.pl s.pl → Go C T s (f s.pl) pc' P c
  len : ∀ p, (f p).length ≤ l
  fine : ∀ p, Fine T G p p → ∀ q ∈ f p, Fine T G p q
section
variable {C : List Op} {T : List Nat} {G Lq pc pc1 pc' : Nat} {f g : Pl → List Pl} {P P1 P2 : Nat → Prop} {c c1 c2 l l1 l2 : Nat}
theorem GP.eq {pc2 : Nat} (h : GP C T G Lq pc pc' f P c l) (e : pc' = pc2) : GP C T G Lq pc pc2 f P c l := e ▸ h
theorem GP.seq (h : GP C T G Lq pc pc1 f P1 c1 l1) (k : GP C T G Lq pc1 pc' g P2 c2 l2) : GP C T G Lq pc pc' (fun p => (f p).flatMap g) (fun q => P1 q ∨ P2 q) (c1 + l1 * c2) (l1 * l2) :=
  ⟨fun s h1 h2 h3 => (h.go s h1 h2 h3).bind (h.len _) (fun x x1 x2 x3 => k.go x x1 (x2.1.trans h2) (fine_self (h.fine _ h3 _ x3))) (fun _ h => .inl h) (fun _ h => .inr h) (Nat.le_refl _),
   fun p => flat_le (h.len p) k.len, fun p hp => flat_fine (h.fine p hp) k.fine⟩
theorem GP.sign {op : Op} (h : C[pc]? = some op) (hf : ∀ s, Fit T op s) (hs : ∀ s, succ T op s = Option.elim T[s.i]? [] fun k => if takesB op k = true then [⟨s.pc + 1, s.i + 1, s.gs, s.ls⟩] else []) : GP C T G Lq pc (pc + 1) (sgn T op) P 1 1 :=
  ⟨fun s h1 _ _ => by subst h1; exact go_sgn h (hf s) (hs s), sgn_len T op, fun _ hp _ hq => (sgn_fine hp hq).1⟩
theorem GP.alt {m : Nat} (h0 : C[pc]? = some (.split (pc + 1) (m + 1))) (ha : GP C T G Lq (pc + 1) m f P1 c1 l1) (hj : C[m]? = some (.jump pc')) (hb : GP C T G Lq (m + 1) pc' g P2 c2 l2) : GP C T G Lq pc pc' (fun p => f p ++ g p) (fun q => P1 q ∨ P2 q) (1 + (c1 + l1) + c2) (l1 + l2) := by
  refine ⟨fun s h1 h2 h3 => ?_, fun p => by rw [List.length_append]; exact Nat.add_le_add (ha.len p) (hb.len p), fun p hp q hq => (List.mem_append.mp hq).elim (ha.fine p hp q) (hb.fine p hp q)⟩
  have ga : Go C T ⟨pc + 1, s.i, s.gs, s.ls⟩ (f s.pl) pc' (fun q => P1 q ∨ P2 q) (c1 + l1 * 1) := by
    have e : f s.pl = (f s.pl).flatMap fun q => [q] := (List.flatMap_singleton' _).symm
    rw [e]
    refine (ha.go ⟨pc + 1, s.i, s.gs, s.ls⟩ rfl h2 h3).bind (ha.len _) (fun x x1 _ _ => ?_) (fun q h => .inl h) (fun q h => h) (Nat.le_refl _)
    exact Go.one (a := ⟨pc', x.i, x.gs, x.ls⟩) (op := .jump pc') (by rw [x1]; exact hj) trivial rfl Keep.rfl' (Go.leaf (s := ⟨pc', x.i, x.gs, x.ls⟩))
  have gb : Go C T ⟨m + 1, s.i, s.gs, s.ls⟩ (g s.pl) pc' (fun q => P1 q ∨ P2 q) c2 := (hb.go ⟨m + 1, s.i, s.gs, s.ls⟩ rfl h2 h3).mono (fun q h => .inr h) (Nat.le_refl _)
  rw [Nat.mul_one] at ga
  exact Go.two (op := .split (pc + 1) (m + 1)) (by rw [h1]; exact h0) trivial rfl Keep.rfl' Keep.rfl' ga gb
theorem GP.grp {n m : Nat} (h1 : 1 ≤ n) (h2 : n ≤ G) (h3 : n ≤ Lq) (hP : ¬ P (Lq - n)) (h0 : C[pc]? = some (.opn n)) (ht : GP C T G Lq (pc + 1) m f P c l) (hc : C[m]? = some (.clo n)) : GP C T G Lq pc (m + 1) (fun p => (f p).flatMap fun q => [(q.1, q.2.set (n - 1) (.tuple [.int p.1, .int q.1]))]) (fun q => q = Lq - n ∨ P q) (1 + (c + l * 1)) (l * 1) := by
  refine ⟨fun s z1 z2 z3 => ?_, fun p => flat_le (ht.len p) fun _ => Nat.le_refl _, fun p hp q hq => ?_⟩
  · have hfl : (s.ls.set (s.ls.length - n) (.int s.i)).length = Lq := by rw [List.length_set]; exact z2
    refine Go.one (op := .opn n) (a := ⟨pc + 1, s.i, s.gs, s.ls.set (s.ls.length - n) (.int s.i)⟩) (by rw [z1]; exact h0) ⟨h1, by rw [z2]; exact h3⟩ (by rw [← z1]; rfl) (Keep.set (.inl (by rw [z2]))) ?_
    refine (ht.go ⟨pc + 1, s.i, s.gs, s.ls.set (s.ls.length - n) (.int s.i)⟩ rfl hfl z3).bind (ht.len _) (fun x x1 x2 x3 => ?_) (fun q h => .inr h) (fun q h => h) (Nat.le_refl _)
    have hxl : x.ls.length = Lq := x2.1.trans hfl
    have hget : x.ls[x.ls.length - n]? = some (.int s.i) := by
      rw [hxl, ← z2]
      refine (x2.2 _ (by rw [z2]; exact hP)).trans ?_
      exact set_get _ (by rw [z2]; lia -abstractProof)
    have hxg : x.gs.length = G := (ht.fine _ z3 _ x3).2.2.1
    exact Go.one (op := .clo n) (a := ⟨m + 1, x.i, x.gs.set (n - 1) (.tuple [.int s.i, .int x.i]), x.ls⟩) (by rw [x1]; exact hc) ⟨h1, by rw [hxl]; exact h3, by rw [hxg]; exact h2, s.i, hget⟩ (by show Option.elim x.ls[x.ls.length - n]? [] _ = _; rw [hget, x1]; rfl) Keep.rfl' (Go.leaf (s := ⟨m + 1, x.i, x.gs.set (n - 1) (.tuple [.int s.i, .int x.i]), x.ls⟩))
  · obtain ⟨r, hr, hq⟩ := List.mem_flatMap.mp hq
    rw [List.mem_singleton.mp hq]
    have z := ht.fine p hp r hr
    exact ⟨z.1, z.2.1, good_set z.2.2 _ _ _ z.1 z.2.1⟩
theorem GP.back {n : Nat} (h1 : 1 ≤ n) (h2 : n ≤ G) (h0 : C[pc]? = some (.back n)) : GP C T G Lq pc (pc + 1) (backE T n) P 1 1 := by
  refine ⟨fun s z1 _ z3 => ?_, back_len T n, fun p hp q hq => back_fine hp hq⟩
  subst z1
  have hg := z3.2.2
  have hlt : n - 1 < s.gs.length := by have : s.gs.length = G := hg.1; lia -abstractProof
  have hmem : s.gs[n - 1] ∈ s.gs := List.getElem_mem hlt
  have hget : s.gs[n - 1]? = some (s.gs[n - 1]) := List.getElem?_eq_getElem hlt
  have e0 : backE T n s.pl = Option.elim s.gs[n - 1]? [] fun d => cond (isNoD d) [s.pl] (Option.elim (asBE d) [] fun q => if (T.drop q.1).take (q.2 - q.1) = (T.drop s.i).take (q.2 - q.1) then [(s.i + (q.2 - q.1), s.gs)] else []) := rfl
  have e1 : succ T (.back n) s = Option.elim s.gs[n - 1]? [] fun d => cond (isNoD d) [⟨s.pc + 1, s.i, s.gs, s.ls⟩] (Option.elim (asBE d) [] fun p => if (T.drop p.1).take (p.2 - p.1) = (T.drop s.i).take (p.2 - p.1) then [⟨s.pc + 1, s.i + (p.2 - p.1), s.gs, s.ls⟩] else []) := rfl
  rcases hg.2 _ hmem with e | ⟨b, e', e, h5, h6⟩
  · rw [e] at hget
    rw [hget] at e0 e1
    rw [e0]
    exact .one h0 ⟨h1, .inl hget⟩ (a := ⟨s.pc + 1, s.i, s.gs, s.ls⟩) e1 Keep.rfl' (Go.leaf (s := ⟨s.pc + 1, s.i, s.gs, s.ls⟩))
  · rw [e] at hget
    rw [hget] at e0 e1
    rw [e0]
    replace e1 : succ T (.back n) s = if (T.drop b).take (e' - b) = (T.drop s.i).take (e' - b) then [⟨s.pc + 1, s.i + (e' - b), s.gs, s.ls⟩] else [] := e1
    show Go C T s (if (T.drop b).take (e' - b) = (T.drop s.i).take (e' - b) then [(s.i + (e' - b), s.gs)] else []) (s.pc + 1) P 1
    have hfit : Fit T (.back n) s := ⟨h1, .inr ⟨b, e', hget, h5, h6⟩⟩
    by_cases e2 : (T.drop b).take (e' - b) = (T.drop s.i).take (e' - b)
    · rw [if_pos e2] at e1 ⊢
      exact .one h0 hfit (a := ⟨s.pc + 1, s.i + (e' - b), s.gs, s.ls⟩) e1 Keep.rfl' (Go.leaf (s := ⟨s.pc + 1, s.i + (e' - b), s.gs, s.ls⟩))
    · rw [if_neg e2] at e1 ⊢
      exact .nil h0 hfit e1
theorem GP.fin (h0 : C[pc]? = some .fin) : GP C T G Lq pc (pc + 1) (fun p => if p.1 = T.length then [p] else []) P 1 1 := by
  refine ⟨fun s z1 _ _ => ?_, fun p => len_if (Nat.le_refl _) (Nat.zero_le _), fun p hp q hq => ?_⟩
  · subst z1
    by_cases e : s.i = T.length
    · show Go C T s (if s.i = T.length then [s.pl] else []) _ P 1
      rw [if_pos e]; exact .one h0 trivial (a := ⟨s.pc + 1, s.i, s.gs, s.ls⟩) (if_pos e) Keep.rfl' (Go.leaf (s := ⟨s.pc + 1, s.i, s.gs, s.ls⟩))
    · show Go C T s (if s.i = T.length then [s.pl] else []) _ P 1
      rw [if_neg e]; exact .nil h0 trivial (if_neg e)
  · rcases mem_if hq with hq | hq
    · rw [List.mem_singleton.mp hq]; exact hp
    · cases hq
theorem GP.rep {lo : Int} {mo : Option Int} {lz : Bool} {k m : Nat} (hT : T.length ≤ 3) (hk : k < Lq) (hP : ¬ P k) (ha : ∀ p, Fine T G p p → ∀ q ∈ f p, p.1 < q.1) (h0 : C[pc]? = some (.loop k)) (hh : C[pc + 1]? = some (.head k lo mo lz (m + 1))) (ht : GP C T G Lq (pc + 2) m f P c l) (htl : C[m]? = some (.tail k lo (pc + 1))) :
    GP C T G Lq pc (m + 1) (fun p => evRep f lo mo lz (T.length + 1) 0 p) (fun q => q = k ∨ P q) (1 + rc l c 4) (rl l 4) := by
  refine ⟨fun s z1 z2 z3 => ?_, fun p => Nat.le_trans (rep_len ht.len _ _ p) (rl_le (by lia -abstractProof)), fun p hp => rep_fine ht.fine _ _ p hp⟩
  have hfl : (s.ls.set k (.tuple [.int 0, .int s.i])).length = Lq := by rw [List.length_set]; exact z2
  have hr := rep_head (C := C) (T := T) (G := G) (Lq := Lq) (k := k) (pc := pc) (out := m + 1) (lo := lo) (mo := mo) (lz := lz) (PB := P) (m := m) ht.go ht.len ht.fine ha hh htl hk hP (T.length + 1) 0 ⟨pc + 1, s.i, s.gs, s.ls.set k (.tuple [.int 0, .int s.i])⟩ rfl hfl ⟨s.i, set_get _ (by rw [z2]; exact hk)⟩ z3 (by show T.length < s.i + _; lia -abstractProof)
  exact (Go.one (op := .loop k) (by rw [z1]; exact h0) (by show k < _; rw [z2]; exact hk) (by rw [← z1]; rfl) (Keep.set (.inl rfl)) hr).mono (fun q h => h) (Nat.add_le_add_left (rc_le (by lia -abstractProof)) 1)
end
open Pat in
theorem exp {C : List Op} {T : List Nat} (hT : T.length ≤ 3) {G Lq : Nat} : ∀ (t : Pat) (k pc : Nat), Laid C pc (t.ops pc k) → t.Wf k Lq G → GP C T G Lq pc (pc + t.len) (t.ev T) (t.touch k Lq) t.cst t.lv
  | chr c, k, pc, hl, _ => .sign (hl 0 _ rfl) (fun _ => trivial) fun _ => rfl
  | any, k, pc, hl, _ => .sign (hl 0 _ rfl) (fun _ => trivial) fun _ => rfl
  | cls, k, pc, hl, _ => .sign (hl 0 _ rfl) (fun _ => trivial) fun _ => rfl
  | fin, k, pc, hl, _ => .fin (hl 0 _ rfl)
  | back n, k, pc, hl, hw => .back hw.1 hw.2 (hl 0 _ rfl)
  | seq2 a b, k, pc, hl, hw => by
    obtain ⟨l1, l2⟩ := hl.app
    rw [ops_length] at l2
    exact ((exp hT a k pc l1 hw.1).seq (exp hT b _ _ l2 hw.2)).eq (Nat.add_assoc _ _ _)
  | seq3 a b c, k, pc, hl, hw => by
    obtain ⟨l1, l2⟩ := hl.app
    obtain ⟨l2, l3⟩ := l2.app
    rw [ops_length] at l2
    rw [ops_length, ops_length] at l3
    exact ((exp hT a k pc l1 hw.1).seq ((exp hT b _ _ l2 hw.2.1).seq (exp hT c _ _ l3 hw.2.2))).eq (by show _ = pc + (a.len + b.len + c.len); lia -abstractProof)
  | alt2 a b, k, pc, hl, hw => by
    obtain ⟨l0, l1⟩ := hl.cons
    obtain ⟨l1, l2⟩ := l1.app
    obtain ⟨l2, l3⟩ := l2.cons
    rw [ops_length] at l2 l3
    have e : pc + a.len + 2 = pc + 1 + a.len + 1 := by lia -abstractProof
    rw [e] at l0 l2 l3
    exact (GP.alt l0 (exp hT a k _ l1 hw.1) l2 (exp hT b _ _ l3 hw.2)).eq (by show _ = pc + (a.len + b.len + 2); lia -abstractProof)
  | grp t, k, pc, hl, hw => exp hT t k pc hl hw
  | grpN n t, k, pc, hl, hw => by
    obtain ⟨l0, l1⟩ := hl.cons
    obtain ⟨l1, l2⟩ := l1.app
    obtain ⟨l2, _⟩ := l2.cons
    rw [ops_length] at l2
    exact (GP.grp hw.1 hw.2.1 hw.2.2.1 hw.2.2.2.1 l0 (exp hT t k _ l1 hw.2.2.2.2) l2).eq (by show _ = pc + (t.len + 2); lia -abstractProof)
  | rep lo mo lz t, k, pc, hl, hw => by
    obtain ⟨l0, l1⟩ := hl.cons
    obtain ⟨l1, l2⟩ := l1.cons
    obtain ⟨l2, l3⟩ := l2.app
    obtain ⟨l3, _⟩ := l3.cons
    rw [ops_length] at l3
    have e : pc + t.len + 3 = pc + 2 + t.len + 1 := by lia -abstractProof
    rw [e] at l1
    exact (GP.rep hT hw.1 hw.2.2.1 (fun p hp => ev_adv t p hw.2.1 hp) l0 l1 (exp hT t (k + 1) _ l2 hw.2.2.2) l3).eq e.symm
open Pat in
theorem whole {T : List Nat} (hT : T.length ≤ 3) {G Lq : Nat} (t : Pat) (hw : t.Wf 0 Lq G) (i : Nat) (hi : i ≤ T.length) (gs ls : List Dat) (hg : Good T G gs) (hl : ls.length = Lq) :
    ∃ n, n ≤ t.cst + 1 ∧ Out (t.ops 0 0 ++ [.met]) T n [⟨0, i, gs, ls⟩] (t.ev T (i, gs)).head? := by
  have h : Laid (t.ops 0 0 ++ [.met]) 0 (t.ops 0 0 ++ [.met]) := fun j op h => by rw [Nat.zero_add]; exact h
  obtain ⟨l1, l2⟩ := h.app
  obtain ⟨l2, _⟩ := l2.cons
  rw [ops_length] at l2
  exact out_end ((exp hT t 0 0 l1 hw).go ⟨0, i, gs, ls⟩ rfl hl ⟨Nat.le_refl _, hi, hg⟩) l2
end
section
mutual
inductive GT : Dat → Nat → Nat → Prop
  | none : GT .none 0 1
  | int (i : Int) : GT (.int i) 0 1
  | bool (b : Bool) : GT (.bool b) 0 1
  | str (x : Str) : GT (.str x) 0 1
  | grpN {n : Int} {t : Dat} {c z : Nat} : GT t c z → GT (.tuple [.str (Str.ofString "group"), .int n, t]) (c + 1) (z + 3)
  | grp {t : Dat} {c z : Nat} : GT t c z → GT (.tuple [.str (Str.ofString "group"), .none, t]) c (z + 3)
  | two {d e : Dat} {c z : Nat} : GL [d, e] c z → GT (.tuple [.str (Str.ofString "class"), d, e]) c (z + 2)
  | row {ds : List Dat} {d e : Dat} {c z : Nat} : GL [.tuple ds, d, e] c z → GT (.tuple [.tuple ds, d, e]) c (z + 1)
  | oth {ds : List Dat} {c z : Nat} : ds ≠ [] → ds.length ≠ 3 → GL ds c z → GT (.tuple ds) c (z + 1)
inductive GL : List Dat → Nat → Nat → Prop
  | nil : GL [] 0 0
  | cons {d : Dat} {ds : List Dat} {c z c' z' : Nat} : GT d c z → GL ds c' z' → GL (d :: ds) (c + c') (z + z')
end
theorem GL.app {ds es : List Dat} {c z : Nat} (k : GL es c z) : ∀ {c' z' : Nat}, GL ds c' z' → GL (ds ++ es) (c' + c) (z' + z) := by
  induction ds with
  | nil => intro c' z' h; cases h; rw [Nat.zero_add, Nat.zero_add]; exact k
  | cons d ds ih => intro c' z' h; cases h with | cons h1 h2 => rw [Nat.add_assoc, Nat.add_assoc]; exact .cons h1 (ih h2)
theorem GL.snoc {ds : List Dat} {d : Dat} : ∀ {c z : Nat}, GL (ds ++ [d]) c z → ∃ c1 z1 c2 z2, GL ds c1 z1 ∧ GT d c2 z2 ∧ c = c1 + c2 ∧ z = z1 + z2 := by
  induction ds with
  | nil => intro c z h; cases h with | cons h1 h2 => cases h2; exact ⟨0, 0, _, _, .nil, h1, (Nat.zero_add _).symm, (Nat.zero_add _).symm⟩
  | cons e ds ih =>
    intro c z h
    cases h with
    | cons h1 h2 =>
      obtain ⟨c1, z1, c2, z2, k1, k2, rfl, rfl⟩ := ih h2
      exact ⟨_, _, c2, z2, .cons h1 k1, k2, (Nat.add_assoc _ _ _).symm, (Nat.add_assoc _ _ _).symm⟩
theorem GT.pos {d : Dat} {c z : Nat} (h : GT d c z) : 1 ≤ z := by cases h <;> exact Nat.le_add_left 1 _
theorem GL.len {ds : List Dat} : ∀ {c z : Nat}, GL ds c z → ds.length ≤ z := by
  induction ds with
  | nil => intro c z h; exact Nat.zero_le _
  | cons e ds ih =>
    intro c z h
    cases h with
    | cons h1 h2 =>
      have := ih h2
      have := h1.pos
      rw [List.length_cons]; lia -abstractProof
namespace Pat
noncomputable def grps : Pat → Nat
  | seq2 a b | alt2 a b => a.grps + b.grps
  | seq3 a b c => a.grps + (b.grps + c.grps)
  | grp t | rep _ _ _ t => t.grps
  | grpN _ t => t.grps + 1
  | chr _ | any | cls | fin | back _ => 0
noncomputable def gsz : Pat → Nat
  | seq2 a b | alt2 a b => a.gsz + b.gsz + 8
  | seq3 a b c => a.gsz + b.gsz + c.gsz + 8
  | grp t | rep _ _ _ t | grpN _ t => t.gsz + 8
  | chr _ | any | cls | fin | back _ => 9
end Pat
theorem GT.eq {d : Dat} {c c' z : Nat} (h : GT d c z) (e : c = c') : GT d c' z := e ▸ h
theorem gl1 {a : Dat} {c z : Nat} (h : GT a c z) : GL [a] c z := GL.cons h .nil
theorem pat_tup (t : Pat) : ∃ ds, t.dat = .tuple ds := by cases t <;> exact ⟨_, rfl⟩
theorem gt_oth {ds : List Dat} {n c z : Nat} (x : Str) (hn : ds.length = n) (h3 : n ≠ 3) (h0 : n ≠ 0) (h : GL ds c z) : GT (.tuple [.str x, .tuple ds]) (0 + c) (1 + (z + 1) + 1) := by
  subst hn
  exact .oth (fun h => nomatch h) (fun h => nomatch h) (.cons (.str _) (gl1 (.oth (fun e => h0 (e ▸ rfl)) h3 h)))
theorem gt_one (x : Str) (d : Dat) {c z : Nat} (h : GT d c z) : GT (.tuple [.str x, d]) (0 + c) (1 + z + 1) := .oth (fun h => nomatch h) (fun h => nomatch h) (.cons (.str _) (gl1 h))
theorem gsz2 {za zb a b : Nat} (ha : za ≤ a) (hb : zb ≤ b) : 1 + (za + zb + 1) + 1 ≤ a + b + 8 := by lia -abstractProof
theorem gsz3 {za zb zc a b c : Nat} (ha : za ≤ a) (hb : zb ≤ b) (hc : zc ≤ c) : 1 + (za + (zb + zc) + 1) + 1 ≤ a + b + c + 8 := by lia -abstractProof
theorem gt_p3 (x : Str) {a b c : Pat} {ca cb cc za zb zc : Nat} (ga : GT a.dat ca za) (gb : GT b.dat cb zb) (gc : GT c.dat cc zc) : GT (.tuple [.str x, .tuple [a.dat, b.dat, c.dat]]) (0 + (ca + (cb + cc))) (1 + (za + (zb + zc) + 1) + 1) := by
  obtain ⟨ds, e⟩ := pat_tup a
  rw [e] at ga ⊢
  exact .oth (fun h => nomatch h) (fun h => nomatch h) (.cons (.str _) (gl1 (.row (.cons ga (.cons gb (gl1 gc))))))
structure GZ (t : Pat) : Prop where
  ex : ∃ z, z ≤ t.gsz ∧ GT t.dat t.grps z
theorem GZ.of {t : Pat} {c z : Nat} (g : GT t.dat c z) (h : z ≤ t.gsz) (e : c = t.grps) : GZ t := ⟨z, h, e ▸ g⟩
open Pat in
theorem pat_gz : ∀ t : Pat, GZ t
  | chr c => .of (gt_one _ _ (.int _)) (Nat.le_of_ble_eq_true rfl) rfl
  | any => .of (.oth (fun h => nomatch h) (fun h => nomatch h) (.cons (.str _) .nil)) (Nat.le_of_ble_eq_true rfl) rfl
  | fin => .of (.oth (fun h => nomatch h) (fun h => nomatch h) (.cons (.str _) .nil)) (Nat.le_of_ble_eq_true rfl) rfl
  | back n => .of (gt_one _ _ (.int _)) (Nat.le_of_ble_eq_true rfl) rfl
  | cls => .of (.two (.cons (.oth (fun h => nomatch h) (fun h => nomatch h) (gl1 (.oth (fun h => nomatch h) (fun h => nomatch h) (.cons (.int _) (gl1 (.int _)))))) (gl1 (.bool _)))) (Nat.le_of_ble_eq_true rfl) rfl
  | seq2 a b => (pat_gz a).ex.elim fun _ ha => (pat_gz b).ex.elim fun _ hb => .of (gt_oth _ rfl (fun h => nomatch h) (fun h => nomatch h) (.cons ha.2 (gl1 hb.2))) (gsz2 ha.1 hb.1) (Nat.zero_add _)
  | alt2 a b => (pat_gz a).ex.elim fun _ ha => (pat_gz b).ex.elim fun _ hb => .of (gt_oth _ rfl (fun h => nomatch h) (fun h => nomatch h) (.cons ha.2 (gl1 hb.2))) (gsz2 ha.1 hb.1) (Nat.zero_add _)
  | seq3 a b c => (pat_gz a).ex.elim fun _ ha => (pat_gz b).ex.elim fun _ hb => (pat_gz c).ex.elim fun _ hc => .of (gt_p3 _ ha.2 hb.2 hc.2) (gsz3 ha.1 hb.1 hc.1) (Nat.zero_add _)
  | grp t => (pat_gz t).ex.elim fun _ h => .of (.grp h.2) (Nat.add_le_add h.1 (Nat.le_of_ble_eq_true rfl)) rfl
  | grpN n t => (pat_gz t).ex.elim fun _ h => .of (.grpN h.2) (Nat.add_le_add h.1 (Nat.le_of_ble_eq_true rfl)) rfl
  | rep lo mo lz t => (pat_gz t).ex.elim fun _ h => .of (.oth (fun h => nomatch h) (fun h => nomatch h) (.cons (.str _) (.cons (.int _) (.cons (by cases mo with | none => exact GT.none | some i => exact GT.int i) (.cons (.bool _) (.cons h.2 (.cons (.int _) (gl1 (.int _)))))))) ) (by have := h.1; show _ ≤ t.gsz + 8; lia -abstractProof) (by show 0 + (0 + (0 + (0 + (t.grps + (0 + 0))))) = t.grps; lia -abstractProof)
theorem pat_gt (t : Pat) : ∃ z, z ≤ t.gsz ∧ GT t.dat t.grps z := (pat_gz t).ex
end
section
inductive Term0 : Pat → Prop
  | a : Term0 (.chr 97) | b : Term0 (.chr 98) | any : Term0 .any | cls : Term0 .cls
inductive Term1 : Pat → Prop
  | one {t : Pat} : Term0 t → Term1 t
  | row {t u : Pat} : Term0 t → Term0 u → Term1 (.seq2 t u)
  | alt {t u : Pat} : Term0 t → Term0 u → Term1 (.grp (.alt2 t u))
inductive TermY : Pat → Prop
  | one {t : Pat} : Term1 t → TermY t
  | rep {t : Pat} {l : Nat} {lz : Bool} : l ≤ 1 → Term0 t → TermY (.rep l none lz t)
structure Part (t : Pat) (n : Nat) : Prop where
  len : t.len ≤ 4
  loops : t.loops = n
  lv : t.lv ≤ 4
  cst : t.cst ≤ 13
  room : t.room ≤ 8
  gsz : t.gsz ≤ 34
  grps : t.grps = 0
  wf : ∀ k L G, k + n ≤ L → t.Wf k L G
  touch : ∀ k L q, t.touch k L q → q < k + n
theorem term0_adv {t : Pat} (h : Term0 t) : t.adv = true := by cases h <;> rfl
theorem term0_part {t : Pat} (h : Term0 t) : t.len = 1 ∧ t.loops = 0 ∧ t.lv = 1 ∧ t.cst = 1 ∧ t.room = 2 ∧ t.gsz = 9 ∧ t.grps = 0 ∧ (∀ k L G, t.Wf k L G) ∧ ∀ k L q, ¬ t.touch k L q := by
  cases h <;> exact ⟨rfl, rfl, rfl, rfl, rfl, rfl, rfl, fun _ _ _ => trivial, fun _ _ _ h => h⟩
theorem term1_part {t : Pat} (h : Term1 t) : Part t 0 := by
  cases h with
  | one h =>
    obtain ⟨h1, h2, h3, h4, h5, h6, h7, h8, h9⟩ := term0_part h
    exact ⟨by lia -abstractProof, h2, by lia -abstractProof, by lia -abstractProof, by lia -abstractProof, by lia -abstractProof, h7, fun _ _ _ _ => h8 _ _ _, fun _ _ _ h => (h9 _ _ _ h).elim⟩
  | @row t u h k =>
    obtain ⟨h1, h2, h3, h4, h5, h6, h7, h8, h9⟩ := term0_part h
    obtain ⟨k1, k2, k3, k4, k5, k6, k7, k8, k9⟩ := term0_part k
    refine ⟨by show t.len + u.len ≤ 4; lia -abstractProof, by show t.loops + u.loops = 0; lia -abstractProof, ?_, ?_, by show t.room + u.room + 1 ≤ 8; lia -abstractProof, by show t.gsz + u.gsz + 8 ≤ 34; lia -abstractProof, by show t.grps + u.grps = 0; lia -abstractProof, fun _ _ _ _ => ⟨h8 _ _ _, k8 _ _ _⟩, fun _ _ _ h => h.elim (fun h => (h9 _ _ _ h).elim) fun h => (k9 _ _ _ h).elim⟩
    · show t.lv * u.lv ≤ 4
      rw [h3, k3]; decide
    · show t.cst + t.lv * u.cst ≤ 13
      rw [h4, h3, k4]; decide
  | @alt t u h k =>
    obtain ⟨h1, h2, h3, h4, h5, h6, h7, h8, h9⟩ := term0_part h
    obtain ⟨k1, k2, k3, k4, k5, k6, k7, k8, k9⟩ := term0_part k
    exact ⟨by show t.len + u.len + 2 ≤ 4; lia -abstractProof, by show t.loops + u.loops = 0; lia -abstractProof, by show t.lv + u.lv ≤ 4; lia -abstractProof, by show 1 + (t.cst + t.lv) + u.cst ≤ 13; lia -abstractProof, by show t.room + u.room + 2 + 2 ≤ 8; lia -abstractProof, by show t.gsz + u.gsz + 8 + 8 ≤ 34; lia -abstractProof, by show t.grps + u.grps = 0; lia -abstractProof, fun _ _ _ _ => ⟨h8 _ _ _, k8 _ _ _⟩, fun _ _ _ h => h.elim (fun h => (h9 _ _ _ h).elim) fun h => (k9 _ _ _ h).elim⟩
theorem termy_part {t : Pat} (h : TermY t) : ∃ n, n ≤ 1 ∧ Part t n := by
  cases h with
  | one h => exact ⟨0, Nat.zero_le _, term1_part h⟩
  | @rep t l lz hl h =>
    obtain ⟨h1, h2, h3, h4, h5, h6, h7, h8, h9⟩ := term0_part h
    refine ⟨1, Nat.le_refl _, by show t.len + 3 ≤ 4; lia -abstractProof, by show t.loops + 1 = 1; lia -abstractProof, ?_, ?_, by show t.room + 2 ≤ 8; lia -abstractProof, by show t.gsz + 8 ≤ 34; lia -abstractProof, h7, fun k L G hk => ⟨by lia -abstractProof, term0_adv h, h9 _ _ _, h8 _ _ _⟩, fun k L q hq => hq.elim (fun e => by lia -abstractProof) fun h => (h9 _ _ _ h).elim⟩
    · show rl t.lv 4 ≤ 4
      rw [h3]; decide
    · show 1 + rc t.lv t.cst 4 ≤ 13
      rw [h3, h4]; decide
structure Fit2 (t : Pat) : Prop where
  len : t.len ≤ 60
  loops : t.loops ≤ 2
  grps : t.grps ≤ 2
  cst : t.cst ≤ 20000
  room : t.room ≤ 60
  gsz : t.gsz ≤ 900
  wf : t.Wf 0 (t.loops + t.grps + 1) t.grps
theorem fit_whole {t : Pat} {n : Nat} (hn : n ≤ 1) (h : Part t n) : Fit2 (.seq2 t .fin) := by
  obtain ⟨h1, h2, h3, h4, h5, h6, h7, h8, h9⟩ := h
  refine ⟨by show t.len + 1 ≤ 60; lia -abstractProof, by show t.loops + 0 ≤ 2; lia -abstractProof, by show t.grps + 0 ≤ 2; lia -abstractProof, ?_, by show t.room + 2 + 1 ≤ 60; lia -abstractProof, by show t.gsz + 9 + 8 ≤ 900; lia -abstractProof, h8 _ _ _ (by show 0 + n ≤ t.loops + 0 + (t.grps + 0) + 1; lia -abstractProof), trivial⟩
  show t.cst + t.lv * 1 ≤ _
  lia -abstractProof
theorem fit_twice {t : Pat} (h : Part t 0) : Fit2 (.seq2 (.grpN 1 t) (.back 1)) := by
  obtain ⟨h1, h2, h3, h4, h5, h6, h7, h8, h9⟩ := h
  refine ⟨by show t.len + 2 + 1 ≤ 60; lia -abstractProof, by show t.loops + 0 ≤ 2; lia -abstractProof, by show t.grps + 1 + 0 ≤ 2; lia -abstractProof, ?_, by show t.room + 2 + 2 + 1 ≤ 60; lia -abstractProof, by show t.gsz + 8 + 9 + 8 ≤ 900; lia -abstractProof, ?_⟩
  · show 1 + (t.cst + t.lv * 1) + t.lv * 1 * 1 ≤ _
    lia -abstractProof
  · show (1 ≤ 1 ∧ 1 ≤ t.grps + 1 + 0 ∧ 1 ≤ t.loops + 0 + (t.grps + 1 + 0) + 1 ∧ ¬ t.touch 0 _ (t.loops + 0 + (t.grps + 1 + 0) + 1 - 1) ∧ t.Wf 0 _ _) ∧ (1 ≤ 1 ∧ 1 ≤ t.grps + 1 + 0)
    exact ⟨⟨Nat.le_refl _, by lia -abstractProof, by lia -abstractProof, fun h => by have := h9 _ _ _ h; lia -abstractProof, h8 _ _ _ (by lia -abstractProof)⟩, Nat.le_refl _, by lia -abstractProof⟩
theorem cst3 {a la b lb c : Nat} (h1 : a ≤ 15) (h2 : la ≤ 4) (h3 : b ≤ 19) (h4 : lb ≤ 4) (h5 : c ≤ 13) : a + la * (b + lb * c) ≤ 15 + 4 * (19 + 4 * 13) := Nat.add_le_add h1 (Nat.mul_le_mul h2 (Nat.add_le_add h3 (Nat.mul_le_mul h4 h5)))
theorem lv3 {a b c : Nat} (h1 : a ≤ 4) (h2 : b ≤ 4) (h3 : c ≤ 4) : a * (b * c) ≤ 4 * (4 * 4) := Nat.mul_le_mul h1 (Nat.mul_le_mul h2 h3)
section
variable {x y z : Pat} {n : Nat}
theorem fit_plain (hn : n ≤ 1) (hx : Part x 0) (hy : Part y n) (hz : Part z 0) : Fit2 (.seq3 x y z) := by
  obtain ⟨x1, x2, x3, x4, x5, x6, x7, x8, x9⟩ := hx
  obtain ⟨y1, y2, y3, y4, y5, y6, y7, y8, y9⟩ := hy
  obtain ⟨z1, z2, z3, z4, z5, z6, z7, z8, z9⟩ := hz
  exact ⟨by show x.len + y.len + z.len ≤ 60; lia -abstractProof, by show x.loops + y.loops + z.loops ≤ 2; lia -abstractProof, by show x.grps + (y.grps + z.grps) ≤ 2; lia -abstractProof, Nat.le_trans (cst3 (a := x.cst) (la := x.lv) (b := y.cst) (lb := y.lv) (c := z.cst) (by lia -abstractProof) x3 (by lia -abstractProof) y3 z4) (by decide), by show x.room + y.room + z.room + 1 ≤ 60; lia -abstractProof, by show x.gsz + y.gsz + z.gsz + 8 ≤ 900; lia -abstractProof,
    ⟨x8 _ _ _ (by lia -abstractProof), y8 _ _ _ (by show 0 + x.loops + n ≤ x.loops + y.loops + z.loops + _ + 1; lia -abstractProof), z8 _ _ _ (by show 0 + x.loops + y.loops + 0 ≤ x.loops + y.loops + z.loops + _ + 1; lia -abstractProof)⟩⟩
theorem fit_grp {t : Pat} (h : Fit2 t) (hr : t.room ≤ 50) (hz : t.gsz ≤ 800) : Fit2 (.grp t) := ⟨h.len, h.loops, h.grps, h.cst, by show t.room + 2 ≤ 60; lia -abstractProof, by show t.gsz + 8 ≤ 900; lia -abstractProof, h.wf⟩
theorem fit_inner (hn : n ≤ 1) (hx : Part x 0) (hy : Part y n) (hz : Part z 0) : Fit2 (.seq3 x (.grpN 1 y) z) := by
  obtain ⟨x1, x2, x3, x4, x5, x6, x7, x8, x9⟩ := hx
  obtain ⟨y1, y2, y3, y4, y5, y6, y7, y8, y9⟩ := hy
  obtain ⟨z1, z2, z3, z4, z5, z6, z7, z8, z9⟩ := hz
  refine ⟨by show x.len + (y.len + 2) + z.len ≤ 60; lia -abstractProof, by show x.loops + y.loops + z.loops ≤ 2; lia -abstractProof, by show x.grps + (y.grps + 1 + z.grps) ≤ 2; lia -abstractProof, Nat.le_trans (cst3 (a := x.cst) (la := x.lv) (b := 1 + (y.cst + y.lv * 1)) (lb := y.lv * 1) (c := z.cst) (by lia -abstractProof) x3 (by lia -abstractProof) (by lia -abstractProof) z4) (by decide), by show x.room + (y.room + 2) + z.room + 1 ≤ 60; lia -abstractProof, by show x.gsz + (y.gsz + 8) + z.gsz + 8 ≤ 900; lia -abstractProof, ?_⟩
  show x.Wf 0 (x.loops + y.loops + z.loops + (x.grps + (y.grps + 1 + z.grps)) + 1) _ ∧ (1 ≤ 1 ∧ 1 ≤ x.grps + (y.grps + 1 + z.grps) ∧ 1 ≤ x.loops + y.loops + z.loops + (x.grps + (y.grps + 1 + z.grps)) + 1 ∧ ¬ y.touch (0 + x.loops) _ (x.loops + y.loops + z.loops + (x.grps + (y.grps + 1 + z.grps)) + 1 - 1) ∧ y.Wf (0 + x.loops) _ _) ∧ z.Wf (0 + x.loops + y.loops) _ _
  exact ⟨x8 _ _ _ (by lia -abstractProof), ⟨Nat.le_refl _, by lia -abstractProof, by lia -abstractProof, fun h => by have := y9 _ _ _ h; lia -abstractProof, y8 _ _ _ (by lia -abstractProof)⟩, z8 _ _ _ (by lia -abstractProof)⟩
theorem fit_grpN (hn : n ≤ 1) (hx : Part x 0) (hy : Part y n) (hz : Part z 0) : Fit2 (.grpN 1 (.seq3 x y z)) := by
  have hf := fit_plain hn hx hy hz
  obtain ⟨x1, x2, x3, x4, x5, x6, x7, x8, x9⟩ := hx
  obtain ⟨y1, y2, y3, y4, y5, y6, y7, y8, y9⟩ := hy
  obtain ⟨z1, z2, z3, z4, z5, z6, z7, z8, z9⟩ := hz
  have hl := lv3 x3 y3 z3
  have hc := cst3 (a := x.cst) (la := x.lv) (b := y.cst) (lb := y.lv) (c := z.cst) (by lia -abstractProof) x3 (by lia -abstractProof) y3 z4
  refine ⟨by show x.len + y.len + z.len + 2 ≤ 60; lia -abstractProof, hf.loops, by show x.grps + (y.grps + z.grps) + 1 ≤ 2; lia -abstractProof, ?_, by show x.room + y.room + z.room + 1 + 2 ≤ 60; lia -abstractProof, by show x.gsz + y.gsz + z.gsz + 8 + 8 ≤ 900; lia -abstractProof, ?_⟩
  · show 1 + (x.cst + x.lv * (y.cst + y.lv * z.cst) + x.lv * (y.lv * z.lv) * 1) ≤ _
    lia -abstractProof
  show 1 ≤ 1 ∧ 1 ≤ x.grps + (y.grps + z.grps) + 1 ∧ 1 ≤ x.loops + y.loops + z.loops + (x.grps + (y.grps + z.grps) + 1) + 1 ∧ ¬ (x.touch 0 _ (x.loops + y.loops + z.loops + (x.grps + (y.grps + z.grps) + 1) + 1 - 1) ∨ y.touch (0 + x.loops) _ (x.loops + y.loops + z.loops + (x.grps + (y.grps + z.grps) + 1) + 1 - 1) ∨ z.touch (0 + x.loops + y.loops) _ (x.loops + y.loops + z.loops + (x.grps + (y.grps + z.grps) + 1) + 1 - 1)) ∧ x.Wf 0 _ _ ∧ y.Wf (0 + x.loops) _ _ ∧ z.Wf (0 + x.loops + y.loops) _ _
  exact ⟨Nat.le_refl _, by lia -abstractProof, by lia -abstractProof, fun h => h.elim (fun h => by have := x9 _ _ _ h; lia -abstractProof) fun h => h.elim (fun h => by have := y9 _ _ _ h; lia -abstractProof) fun h => by have := z9 _ _ _ h; lia -abstractProof, x8 _ _ _ (by lia -abstractProof), y8 _ _ _ (by lia -abstractProof), z8 _ _ _ (by lia -abstractProof)⟩
theorem fit_outer (hn : n ≤ 1) (hx : Part x 0) (hy : Part y n) (hz : Part z 0) : Fit2 (.grpN 1 (.seq3 x (.grpN 2 y) z)) := by
  obtain ⟨x1, x2, x3, x4, x5, x6, x7, x8, x9⟩ := hx
  obtain ⟨y1, y2, y3, y4, y5, y6, y7, y8, y9⟩ := hy
  obtain ⟨z1, z2, z3, z4, z5, z6, z7, z8, z9⟩ := hz
  have hl := lv3 x3 y3 z3
  have hc := cst3 (a := x.cst) (la := x.lv) (b := 1 + (y.cst + y.lv * 1)) (lb := y.lv * 1) (c := z.cst) (by lia -abstractProof) x3 (by lia -abstractProof) (by lia -abstractProof) z4
  refine ⟨by show x.len + (y.len + 2) + z.len + 2 ≤ 60; lia -abstractProof, by show x.loops + y.loops + z.loops ≤ 2; lia -abstractProof, by show x.grps + (y.grps + 1 + z.grps) + 1 ≤ 2; lia -abstractProof, ?_, by show x.room + (y.room + 2) + z.room + 1 + 2 ≤ 60; lia -abstractProof, by show x.gsz + (y.gsz + 8) + z.gsz + 8 + 8 ≤ 900; lia -abstractProof, ?_⟩
  · show 1 + (x.cst + x.lv * (1 + (y.cst + y.lv * 1) + y.lv * 1 * z.cst) + x.lv * (y.lv * 1 * z.lv) * 1) ≤ _
    rw [show y.lv * 1 * z.lv = y.lv * z.lv by rw [Nat.mul_one]]
    lia -abstractProof
  show 1 ≤ 1 ∧ 1 ≤ x.grps + (y.grps + 1 + z.grps) + 1 ∧ 1 ≤ x.loops + y.loops + z.loops + (x.grps + (y.grps + 1 + z.grps) + 1) + 1 ∧ ¬ (x.touch 0 _ (x.loops + y.loops + z.loops + (x.grps + (y.grps + 1 + z.grps) + 1) + 1 - 1) ∨ (x.loops + y.loops + z.loops + (x.grps + (y.grps + 1 + z.grps) + 1) + 1 - 1 = x.loops + y.loops + z.loops + (x.grps + (y.grps + 1 + z.grps) + 1) + 1 - 2 ∨ y.touch (0 + x.loops) _ (x.loops + y.loops + z.loops + (x.grps + (y.grps + 1 + z.grps) + 1) + 1 - 1)) ∨ z.touch (0 + x.loops + y.loops) _ (x.loops + y.loops + z.loops + (x.grps + (y.grps + 1 + z.grps) + 1) + 1 - 1)) ∧ x.Wf 0 _ _ ∧ (1 ≤ 2 ∧ 2 ≤ x.grps + (y.grps + 1 + z.grps) + 1 ∧ 2 ≤ x.loops + y.loops + z.loops + (x.grps + (y.grps + 1 + z.grps) + 1) + 1 ∧ ¬ y.touch (0 + x.loops) _ (x.loops + y.loops + z.loops + (x.grps + (y.grps + 1 + z.grps) + 1) + 1 - 2) ∧ y.Wf (0 + x.loops) _ _) ∧ z.Wf (0 + x.loops + y.loops) _ _
  exact ⟨Nat.le_refl _, by lia -abstractProof, by lia -abstractProof, fun h => h.elim (fun h => by have := x9 _ _ _ h; lia -abstractProof) fun h => h.elim (fun h => h.elim (fun e => by lia -abstractProof) fun h => by have := y9 _ _ _ h; lia -abstractProof) fun h => by have := z9 _ _ _ h; lia -abstractProof, x8 _ _ _ (by lia -abstractProof), ⟨by lia -abstractProof, by lia -abstractProof, by lia -abstractProof, fun h => by have := y9 _ _ _ h; lia -abstractProof, y8 _ _ _ (by lia -abstractProof)⟩, z8 _ _ _ (by lia -abstractProof)⟩
end
end
section
noncomputable abbrev sl (T : List Nat) (i j : Nat) : List Nat := (T.drop i).take (j - i)
theorem sl_len {T : List Nat} {i j : Nat} (h : j ≤ T.length) : (sl T i j).length = j - i := by
  rw [List.length_take, List.length_drop]; lia -abstractProof
theorem sl_self {T : List Nat} {i : Nat} : sl T i i = [] := by
  unfold sl; rw [Nat.sub_self, List.take_zero]
theorem sl_all (T : List Nat) : sl T 0 T.length = T := by
  unfold sl; rw [List.drop_zero, Nat.sub_zero, List.take_length]
theorem sl_app {T : List Nat} {i j k : Nat} (h1 : i ≤ j) (h2 : j ≤ k) : sl T i j ++ sl T j k = sl T i k := by
  unfold sl
  rw [show T.drop j = (T.drop i).drop (j - i) by rw [List.drop_drop]; congr 1; lia -abstractProof, ← List.take_add]
  congr 1; lia -abstractProof
theorem sl_one {T : List Nat} {i k : Nat} (h : T[i]? = some k) : sl T i (i + 1) = [k] := by
  obtain ⟨h1, h2⟩ := List.getElem?_eq_some_iff.mp h
  unfold sl
  rw [List.drop_eq_getElem_cons h1, h2, show i + 1 - i = 1 by lia -abstractProof]; rfl
theorem sl_cut {T : List Nat} {i j : Nat} (h1 : i ≤ j) (h2 : j ≤ T.length) {u v : List Nat} (e : sl T i j = u ++ v) : ∃ m, i ≤ m ∧ m ≤ j ∧ sl T i m = u ∧ sl T m j = v := by
  have hl := congrArg List.length e
  rw [sl_len h2, List.length_append] at hl
  have e2 : sl T i (i + u.length) ++ sl T (i + u.length) j = u ++ v := by rw [sl_app (by lia -abstractProof) (by lia -abstractProof), e]
  have h3 := List.append_inj e2 (by rw [sl_len (by lia -abstractProof)]; lia -abstractProof)
  exact ⟨i + u.length, by lia -abstractProof, by lia -abstractProof, h3.1, h3.2⟩
noncomputable def Pat.to (t : Pat) (T : List Nat) (i : Nat) : List Nat := (t.ev T (i, [])).map (·.1)
structure Reg (t : Pat) (M : List Nat → Prop) : Prop where
  lift : ∀ T i g, t.ev T (i, g) = (t.to T i).map fun j => (j, g)
  mem : ∀ (T : List Nat) i, i ≤ T.length → ∀ j, j ∈ t.to T i ↔ i ≤ j ∧ j ≤ T.length ∧ M (sl T i j)
theorem to_of {t : Pat} {T : List Nat} {i : Nat} {l : List Nat} (h : t.ev T (i, []) = l.map fun j => (j, [])) : t.to T i = l := by
  unfold Pat.to; rw [h, List.map_map]; exact List.map_id l
noncomputable def one (op : Op) (w : List Nat) : Prop := ∃ k : Nat, w = [k] ∧ takesB op k = true
noncomputable def sgnN (T : List Nat) (op : Op) (i : Nat) : List Nat := Option.elim T[i]? [] fun k => if takesB op k = true then [i + 1] else []
theorem sgn_map {T : List Nat} {op : Op} {i : Nat} {g : List Dat} : sgn T op (i, g) = (sgnN T op i).map fun j => (j, g) := by
  show Option.elim T[i]? [] (fun k => if takesB op k = true then [(i + 1, g)] else []) = _
  unfold sgnN
  cases T[i]? with
  | none => rfl
  | some k =>
    show (if takesB op k = true then [(i + 1, g)] else []) = List.map _ (if takesB op k = true then [i + 1] else [])
    by_cases h : takesB op k = true
    · rw [if_pos h, if_pos h]; rfl
    · rw [if_neg h, if_neg h]; rfl
theorem sgnN_mem {T : List Nat} {op : Op} {i j : Nat} : j ∈ sgnN T op i ↔ ∃ k : Nat, T[i]? = some k ∧ takesB op k = true ∧ j = i + 1 := by
  unfold sgnN
  cases T[i]? with
  | none => exact ⟨(fun h => nomatch h), fun ⟨_, h, _⟩ => nomatch h⟩
  | some k =>
    show j ∈ (if takesB op k = true then [i + 1] else []) ↔ _
    by_cases h : takesB op k = true
    · rw [if_pos h]; exact ⟨fun hj => ⟨k, rfl, h, List.mem_singleton.mp hj⟩, fun ⟨_, _, _, e⟩ => List.mem_singleton.mpr e⟩
    · rw [if_neg h]; exact ⟨(fun h => nomatch h), fun ⟨_, e, e2, _⟩ => (h (Option.some.inj e ▸ e2)).elim⟩
theorem one_slice {T : List Nat} {op : Op} {i j : Nat} : j ∈ sgnN T op i ↔ i ≤ j ∧ j ≤ T.length ∧ one op (sl T i j) := by
  refine sgnN_mem.trans ⟨fun ⟨k, h1, h2, e⟩ => ?_, fun ⟨h1, h2, k, h3, h4⟩ => ?_⟩
  · subst e
    exact ⟨by lia -abstractProof, (List.getElem?_eq_some_iff.mp h1).1, k, sl_one h1, h2⟩
  · have hl := congrArg List.length h3
    rw [sl_len h2] at hl
    have hj : j = i + 1 := by change j - i = 1 at hl; lia -abstractProof
    subst hj
    have hk : T[i]? = some T[i] := List.getElem?_eq_getElem (by lia -abstractProof)
    rw [sl_one hk] at h3
    exact ⟨k, by rw [hk]; exact congrArg some (List.cons.inj h3).1, h4, rfl⟩
theorem reg_sgn {t : Pat} {op : Op} (h : ∀ T p, t.ev T p = sgn T op p) : Reg t (one op) := by
  have e : ∀ T i, t.to T i = sgnN T op i := fun T i => to_of ((h _ _).trans sgn_map)
  exact ⟨fun T i g => by rw [e, h]; exact sgn_map, fun T i _ j => by rw [e]; exact one_slice⟩
theorem reg0 {t : Pat} (h : Term0 t) : ∃ op, (∀ T p, t.ev T p = sgn T op p) ∧ Reg t (one op) := by
  cases h with
  | a => exact ⟨.chr 97, fun _ _ => rfl, reg_sgn fun _ _ => rfl⟩
  | b => exact ⟨.chr 98, fun _ _ => rfl, reg_sgn fun _ _ => rfl⟩
  | any => exact ⟨.any, fun _ _ => rfl, reg_sgn fun _ _ => rfl⟩
  | cls => exact ⟨.cls, fun _ _ => rfl, reg_sgn fun _ _ => rfl⟩
theorem flat_lift {l : List Nat} {g : List Dat} {h : Pl → List Pl} : (l.map fun j => (j, g)).flatMap h = l.flatMap fun j => h (j, g) := List.flatMap_map _ _ _
theorem reg_seq {a b : Pat} {M N : List Nat → Prop} (ha : Reg a M) (hb : Reg b N) : Reg (.seq2 a b) fun w => ∃ u v, w = u ++ v ∧ M u ∧ N v := by
  have e : ∀ T i g, (Pat.seq2 a b).ev T (i, g) = ((a.to T i).flatMap (b.to T)).map fun j => (j, g) := fun T i g => by
    show (a.ev T (i, g)).flatMap (b.ev T) = _
    rw [ha.lift, flat_lift, List.map_flatMap]
    exact congrArg (fun k => (a.to T i).flatMap k) (funext fun j => hb.lift T j g)
  have e2 : ∀ T i, (Pat.seq2 a b).to T i = (a.to T i).flatMap (b.to T) := fun T i => to_of (e T i [])
  refine ⟨fun T i g => by rw [e2]; exact e T i g, fun T i hi j => ?_⟩
  rw [e2, List.mem_flatMap]
  constructor
  · rintro ⟨m, h1, h2⟩
    obtain ⟨p1, p2, p3⟩ := (ha.mem T i hi m).mp h1
    obtain ⟨q1, q2, q3⟩ := (hb.mem T m p2 j).mp h2
    exact ⟨by lia -abstractProof, q2, _, _, (sl_app p1 q1).symm, p3, q3⟩
  · rintro ⟨h1, h2, u, v, e, h3, h4⟩
    obtain ⟨m, m1, m2, rfl, rfl⟩ := sl_cut h1 h2 e
    exact ⟨m, (ha.mem T i hi m).mpr ⟨m1, by lia -abstractProof, h3⟩, (hb.mem T m (by lia -abstractProof) j).mpr ⟨m2, h2, h4⟩⟩
theorem reg_alt {a b : Pat} {M N : List Nat → Prop} (ha : Reg a M) (hb : Reg b N) : Reg (.grp (.alt2 a b)) fun w => M w ∨ N w := by
  have e : ∀ T i g, (Pat.grp (.alt2 a b)).ev T (i, g) = (a.to T i ++ b.to T i).map fun j => (j, g) := fun T i g => by
    show a.ev T (i, g) ++ b.ev T (i, g) = _
    rw [ha.lift, hb.lift, List.map_append]
  have e2 : ∀ T i, (Pat.grp (.alt2 a b)).to T i = a.to T i ++ b.to T i := fun T i => to_of (e T i [])
  refine ⟨fun T i g => by rw [e2]; exact e T i g, fun T i hi j => ?_⟩
  rw [e2, List.mem_append, ha.mem T i hi j, hb.mem T i hi j]
  exact ⟨fun h => h.elim (fun ⟨a, b, c⟩ => ⟨a, b, .inl c⟩) fun ⟨a, b, c⟩ => ⟨a, b, .inr c⟩, fun ⟨a, b, c⟩ => c.elim (fun c => .inl ⟨a, b, c⟩) fun c => .inr ⟨a, b, c⟩⟩
noncomputable def repN (T : List Nat) (op : Op) (l : Nat) (lz : Bool) : Nat → Nat → Nat → List Nat
  | 0, _, _ => []
  | f + 1, c, i => if c < l then (sgnN T op i).flatMap (repN T op l lz f (c + 1)) else if lz = true then i :: (sgnN T op i).flatMap (repN T op l lz f (c + 1)) else (sgnN T op i).flatMap (repN T op l lz f (c + 1)) ++ [i]
theorem rep_map {T : List Nat} {op : Op} {l : Nat} {lz : Bool} {g : List Dat} {f : Nat} : ∀ {c i : Nat}, evRep (sgn T op) l none lz f c (i, g) = (repN T op l lz f c i).map fun j => (j, g) := by
  induction f with
  | zero => intro c i; rfl
  | succ f ih =>
    intro c i
    have hb : (sgn T op (i, g)).flatMap (evRep (sgn T op) l none lz f ((c : Int) + 1)) = ((sgnN T op i).flatMap (repN T op l lz f (c + 1))).map fun j => (j, g) := by
      rw [sgn_map, flat_lift, List.map_flatMap]
      exact congrArg (fun k => (sgnN T op i).flatMap k) (funext fun j => ih)
    show (if (none : Option Int).any (· ≤ (c : Int)) = true then _ else if (c : Int) < l then _ else if lz = true then _ else _) = List.map _ (if c < l then _ else if lz = true then _ else _)
    rw [if_neg (fun h => nomatch h)]
    by_cases h1 : c < l
    · rw [if_pos h1, if_pos (Int.ofNat_lt.mpr h1)]; exact hb
    rw [if_neg h1, if_neg fun h => h1 (Int.ofNat_lt.mp h)]
    by_cases h2 : lz = true
    · rw [if_pos h2, if_pos h2]; exact congrArg (List.cons _) hb
    · rw [if_neg h2, if_neg h2, List.map_append]; exact congrArg (· ++ _) hb
theorem repN_mem {T : List Nat} {op : Op} {l : Nat} {lz : Bool} {f : Nat} : ∀ {c i j : Nat}, i ≤ T.length → T.length < i + f → (j ∈ repN T op l lz f c i ↔ i ≤ j ∧ j ≤ T.length ∧ l ≤ c + (j - i) ∧ ∀ k ∈ sl T i j, takesB op (k : Nat) = true) := by
  induction f with
  | zero => intro c i j h1 h2; lia -abstractProof
  | succ f ih =>
    intro c i j h1 h2
    have hb : j ∈ (sgnN T op i).flatMap (repN T op l lz f (c + 1)) ↔ i < j ∧ j ≤ T.length ∧ l ≤ c + (j - i) ∧ ∀ k ∈ sl T i j, takesB op (k : Nat) = true := by
      rw [List.mem_flatMap]
      constructor
      · rintro ⟨m, k1, k2⟩
        obtain ⟨k, e1, e2, rfl⟩ := sgnN_mem.mp k1
        have hi := (List.getElem?_eq_some_iff.mp e1).1
        obtain ⟨p1, p2, p3, p4⟩ := (ih (c := c + 1) hi (by lia -abstractProof)).mp k2
        refine ⟨p1, p2, by lia -abstractProof, fun q hq => ?_⟩
        rw [← sl_app (Nat.le_succ i) p1, sl_one e1] at hq
        rcases List.mem_append.mp hq with hq | hq
        · rw [List.mem_singleton.mp hq]; exact e2
        · exact p4 q hq
      · rintro ⟨p1, p2, p3, p4⟩
        have hk : T[i]? = some T[i] := List.getElem?_eq_getElem (by lia -abstractProof)
        have ha := sl_app (T := T) (Nat.le_succ i) p1
        refine ⟨i + 1, sgnN_mem.mpr ⟨_, hk, p4 _ ?_, rfl⟩, (ih (c := c + 1) (by lia -abstractProof) (by lia -abstractProof)).mpr ⟨p1, p2, by lia -abstractProof, fun q hq => p4 q ?_⟩⟩
        · rw [← ha, sl_one hk]; exact List.mem_append.mpr (.inl (.head _))
        · rw [← ha]; exact List.mem_append.mpr (.inr hq)
    have hs : ∀ {P : Prop}, ¬ c < l → (P ↔ i < j ∧ j ≤ T.length ∧ l ≤ c + (j - i) ∧ ∀ k ∈ sl T i j, takesB op (k : Nat) = true) → (j = i ∨ P ↔ i ≤ j ∧ j ≤ T.length ∧ l ≤ c + (j - i) ∧ ∀ k ∈ sl T i j, takesB op (k : Nat) = true) := fun hc hp => by
      rw [hp]
      constructor
      · rintro (rfl | ⟨a, b⟩)
        · exact ⟨Nat.le_refl _, h1, by lia -abstractProof, fun k hk => by rw [sl_self] at hk; cases hk⟩
        · exact ⟨by lia -abstractProof, b⟩
      · rintro ⟨a, b⟩
        rcases Nat.lt_or_ge i j with h | h
        · exact .inr ⟨h, b⟩
        · exact .inl (by lia -abstractProof)
    show j ∈ (if c < l then _ else if lz = true then _ else _) ↔ _
    by_cases hc : c < l
    · rw [if_pos hc, hb]
      exact ⟨fun ⟨a, b⟩ => ⟨by lia -abstractProof, b⟩, fun ⟨a, b⟩ => ⟨by lia -abstractProof, b⟩⟩
    rw [if_neg hc]
    by_cases h2 : lz = true
    · rw [if_pos h2, List.mem_cons]; exact hs hc hb
    · rw [if_neg h2, List.mem_append, List.mem_singleton, or_comm]; exact hs hc hb
theorem reg_rep {t : Pat} {op : Op} {l : Nat} {lz : Bool} (h : ∀ T p, t.ev T p = sgn T op p) : Reg (.rep l none lz t) fun w => l ≤ w.length ∧ ∀ k ∈ w, takesB op (k : Nat) = true := by
  have e : ∀ T i g, (Pat.rep l none lz t).ev T (i, g) = (repN T op l lz (T.length + 1) 0 i).map fun j => (j, g) := fun T i g => by
    show evRep (t.ev T) l none lz (T.length + 1) 0 (i, g) = _
    rw [show t.ev T = sgn T op from funext fun p => h T p]
    exact rep_map (c := 0)
  have e2 : ∀ T i, (Pat.rep l none lz t).to T i = repN T op l lz (T.length + 1) 0 i := fun T i => to_of (e T i [])
  refine ⟨fun T i g => by rw [e2]; exact e T i g, fun T i hi j => ?_⟩
  rw [e2, repN_mem hi (by lia -abstractProof)]
  constructor
  · rintro ⟨a, b, c, d⟩; exact ⟨a, b, by rw [sl_len b]; lia -abstractProof, d⟩
  · rintro ⟨a, b, c, d⟩; rw [sl_len b] at c; exact ⟨a, b, by lia -abstractProof, d⟩
noncomputable def Pat.trip (x y z : Pat) (T : List Nat) (a : Nat) : List (Nat × Nat × Nat) := (x.to T a).flatMap fun b => (y.to T b).flatMap fun e => (z.to T e).map fun d => (b, e, d)
noncomputable abbrev dBE (b e : Nat) : Dat := .tuple [.int b, .int e]
section
variable {x y z : Pat} {M N K : List Nat → Prop} (hx : Reg x M) (hy : Reg y N) (hz : Reg z K)
include hx hy hz
theorem trip_mem {T : List Nat} {a b e d : Nat} (ha : a ≤ T.length) (h : (b, e, d) ∈ Pat.trip x y z T a) : (a ≤ b ∧ b ≤ e ∧ e ≤ d ∧ d ≤ T.length) ∧ M (sl T a b) ∧ N (sl T b e) ∧ K (sl T e d) := by
  obtain ⟨b', h1, h⟩ := List.mem_flatMap.mp h
  obtain ⟨e', h2, h⟩ := List.mem_flatMap.mp h
  obtain ⟨d', h3, h⟩ := List.mem_map.mp h
  cases h
  obtain ⟨p1, p2, p3⟩ := (hx.mem T a ha b).mp h1
  obtain ⟨q1, q2, q3⟩ := (hy.mem T b p2 e).mp h2
  obtain ⟨r1, r2, r3⟩ := (hz.mem T e q2 d).mp h3
  exact ⟨⟨p1, q1, r1, r2⟩, p3, q3, r3⟩
theorem plain_ev {T : List Nat} {a : Nat} {g : List Dat} : (Pat.seq3 x y z).ev T (a, g) = (Pat.trip x y z T a).map fun q => (q.2.2, g) := by
  show (x.ev T (a, g)).flatMap (fun q => (y.ev T q).flatMap (z.ev T)) = _
  rw [hx.lift, flat_lift]
  unfold Pat.trip
  rw [List.map_flatMap]
  refine congrArg (fun k => (x.to T a).flatMap k) (funext fun b => ?_)
  rw [hy.lift, flat_lift, List.map_flatMap]
  refine congrArg (fun k => (y.to T b).flatMap k) (funext fun e => ?_)
  rw [hz.lift, List.map_map]; rfl
theorem mid_ev {T : List Nat} {n a : Nat} {g : List Dat} : (Pat.seq3 x (.grpN n y) z).ev T (a, g) = (Pat.trip x y z T a).map fun q => (q.2.2, g.set (n - 1) (dBE q.1 q.2.1)) := by
  show (x.ev T (a, g)).flatMap (fun q => ((y.ev T q).flatMap fun r => [(r.1, r.2.set (n - 1) (dBE q.1 r.1))]).flatMap (z.ev T)) = _
  rw [hx.lift, flat_lift]
  unfold Pat.trip
  rw [List.map_flatMap]
  refine congrArg (fun k => (x.to T a).flatMap k) (funext fun b => ?_)
  rw [hy.lift, flat_lift, List.flatMap_assoc, List.map_flatMap]
  refine congrArg (fun k => (y.to T b).flatMap k) (funext fun e => ?_)
  rw [List.flatMap_singleton, hz.lift, List.map_map]; rfl
end
theorem grpN_ev {t : Pat} {T : List Nat} {n a : Nat} {g : List Dat} {l : List (Nat × Nat × Nat)} {f : Nat × Nat × Nat → Pl} (h : t.ev T (a, g) = l.map f) : (Pat.grpN n t).ev T (a, g) = l.map fun q => ((f q).1, (f q).2.set (n - 1) (dBE a (f q).1)) := by
  show (t.ev T (a, g)).flatMap (fun q => [(q.1, q.2.set (n - 1) (dBE a q.1))]) = _
  rw [h, List.flatMap_map, List.map_eq_flatMap]
theorem whole_ev {t : Pat} {M : List Nat → Prop} (h : Reg t M) {W : List Nat} {g : List Dat} : ((Pat.seq2 t .fin).ev W (0, g)).head? = none ↔ ¬ M W := by
  show ((t.ev W (0, g)).flatMap fun q => if q.1 = W.length then [q] else []).head? = none ↔ _
  rw [h.lift, flat_lift, List.head?_eq_none_iff, List.flatMap_eq_nil_iff]
  constructor
  · intro k hM
    have := k W.length ((h.mem W 0 (Nat.zero_le _) _).mpr ⟨Nat.zero_le _, Nat.le_refl _, by rw [sl_all]; exact hM⟩)
    rw [if_pos rfl] at this
    cases this
  · intro k j hj
    refine if_neg fun e => k ?_
    have := ((h.mem W 0 (Nat.zero_le _) j).mp hj).2.2
    subst e
    rwa [sl_all] at this
theorem twice_ev {t : Pat} {M : List Nat → Prop} (h : Reg t M) {T : List Nat} {a : Nat} : (Pat.seq2 (.grpN 1 t) (.back 1)).ev T (a, [.none]) = (t.to T a).flatMap fun e => if sl T a e = (T.drop e).take (e - a) then [(e + (e - a), [dBE a e])] else [] := by
  show ((t.ev T (a, [.none])).flatMap fun q => [(q.1, q.2.set 0 (dBE a q.1))]).flatMap (backE T 1) = _
  rw [h.lift, flat_lift, List.flatMap_assoc]
  refine congrArg (fun k => (t.to T a).flatMap k) (funext fun e => ?_)
  exact List.flatMap_singleton _ _
noncomputable def NoE (M : List Nat → Prop) : Prop := ¬ M []
theorem reg1 {t : Pat} (h : Term1 t) : ∃ M, Reg t M ∧ NoE M := by
  cases h with
  | one h => obtain ⟨op, _, r⟩ := reg0 h; exact ⟨_, r, fun ⟨_, e, _⟩ => nomatch e⟩
  | row h k =>
    obtain ⟨_, _, r⟩ := reg0 h
    obtain ⟨_, _, q⟩ := reg0 k
    refine ⟨_, reg_seq r q, ?_⟩
    rintro ⟨u, v, e, ⟨k, rfl, _⟩, _⟩
    exact nomatch e
  | alt h k =>
    obtain ⟨_, _, r⟩ := reg0 h
    obtain ⟨_, _, q⟩ := reg0 k
    exact ⟨_, reg_alt r q, fun h => h.elim (fun ⟨_, e, _⟩ => nomatch e) fun ⟨_, e, _⟩ => nomatch e⟩
theorem regY {t : Pat} (h : TermY t) : ∃ M, Reg t M := by
  cases h with
  | one h => obtain ⟨M, r, _⟩ := reg1 h; exact ⟨M, r⟩
  | rep _ h => obtain ⟨op, e, _⟩ := reg0 h; exact ⟨_, reg_rep e⟩
end
section
open PySem.Calls PySem.Spec
set_option maxHeartbeats 8000000 in
theorem any_says (w : World) (x : Value) (ra : Addr) (rn : Nat) (tk : Tok) (nw : List (Addr × Obj)) (hm : (ra, tupO [.str (Str.ofString "any") tk] rn) ∈ nw) :
    Says w (.ref 172) [x, .ref ra] 1 nw (fun rv news' => ∃ ext D t n, news' = ext ++ nw ∧ Tups ext ∧ rv = .ref D ∧ (D, tupO [.int 1 t] n) ∈ ext) := by
  refine trick ?_
  unfold Says
  k_fill
  intro _ mean mg mb dp un gd cn cs a ccd cl outer A₀ base h₀ L m s Q E B F X N T hk hd hu hret
  refine wpAny_call ?_
  k_dflt ktr_enter
  (show wpAny _ _ (execs (List.cons _ _) _) _ _ _)
  k_steps
  refine' hret _ _ _ _ (by assumption) (news_outs (by assumption) ?hout) ⟨_, _, _, _, rfl, Outs.tups ?hout, rfl, ?hm⟩
  case hout =>
    repeat (apply Outs.cons; focus (repeat (first | with_reducible exact Pull.head | with_reducible apply Pull.tail | with_reducible apply Pull.app)))
    apply Outs.nil
    repeat (first | with_reducible exact Cut.nil | with_reducible apply Cut.cons | ((with_reducible apply Cut.app); (focus with_reducible assumption)) | with_reducible apply Cut.drop)
  case hm => with_reducible exact List.mem_cons_self
set_option maxHeartbeats 8000000 in
theorem fin_says (w : World) (x : Value) (ra : Addr) (rn : Nat) (tk : Tok) (nw : List (Addr × Obj)) (hm : (ra, tupO [.str (Str.ofString "end") tk] rn) ∈ nw) :
    Says w (.ref 172) [x, .ref ra] 1 nw (fun rv news' => ∃ ext D t n, news' = ext ++ nw ∧ Tups ext ∧ rv = .ref D ∧ (D, tupO [.int 4 t] n) ∈ ext) := by
  refine trick ?_
  unfold Says
  k_fill
  intro _ mean mg mb dp un gd cn cs a ccd cl outer A₀ base h₀ L m s Q E B F X N T hk hd hu hret
  refine wpAny_call ?_
  k_dflt ktr_enter
  (show wpAny _ _ (execs (List.cons _ _) _) _ _ _)
  k_steps
  refine' hret _ _ _ _ (by assumption) (news_outs (by assumption) ?hout) ⟨_, _, _, _, rfl, Outs.tups ?hout, rfl, ?hm⟩
  case hout =>
    repeat (apply Outs.cons; focus (repeat (first | with_reducible exact Pull.head | with_reducible apply Pull.tail | with_reducible apply Pull.app)))
    apply Outs.nil
    repeat (first | with_reducible exact Cut.nil | with_reducible apply Cut.cons | ((with_reducible apply Cut.app); (focus with_reducible assumption)) | with_reducible apply Cut.drop)
  case hm => with_reducible exact List.mem_cons_self
set_option maxHeartbeats 8000000 in
theorem isline_says (w : World) (code : Int) (t : Tok) (im : List (Addr × Obj)) (hc : code = 97 ∨ code = 98 ∨ code = 99) :
    Says w (.ref 22) [.int code t] 1 im (fun r news' => r = .bool false ∧ news' = im) := by
  refine trick ?_
  unfold Says
  k_fill
  intro _ mean mg mb dp un gd cn cs a ccd cl outer A₀ base h₀ L m s Q E B F X N T hk hd hu hret
  rcases hc with rfl | rfl | rfl
  all_goals refine wpAny_call ?_
  all_goals k_dflt ktr_enter
  all_goals (show wpAny _ _ (execs (List.cons _ _) _) _ _ _)
  all_goals k_steps
  all_goals exact hret _ _ _ _ (by assumption) (by assumption) ⟨congrArg Value.bool (by decide), rfl⟩
end
section
set_option genSizeOf false
set_option genInjectivity false
set_option compiler.extract_closed false
noncomputable section
open PySem.Calls PySem.Spec

inductive XV where
  | d (x : Dat)
  | o (k : Nat)
  | g (v : Value)
  | t (xs : List XV)
inductive MO where
  | lst (xs : List Dat)
  | gone
  | inst (C : Addr) (fs : List (Str × XV))
  | cell (x : Option XV)
  | lsx (xs : List XV)
mutual
inductive Den (ad : List Addr) (R : List (Addr × Obj)) : Value → XV → Prop
  | d {v : Value} {x : Dat} : TIn R v x → Den ad R v (.d x)
  | o {k : Nat} {a : Addr} : ad[k]? = some a → Den ad R (.ref a) (.o k)
  | g (v : Value) : Den ad R v (.g v)
  | t {a : Addr} {vs : List Value} {n : Nat} {xs : List XV} : (a, tupO vs n) ∈ R → DenL ad R vs xs → Den ad R (.ref a) (.t xs)
inductive DenL (ad : List Addr) (R : List (Addr × Obj)) : List Value → List XV → Prop
  | nil : DenL ad R [] []
  | cons {v : Value} {vs : List Value} {x : XV} {xs : List XV} : Den ad R v x → DenL ad R vs xs → DenL ad R (v :: vs) (x :: xs)
end
inductive DenO (ad : List Addr) (R : List (Addr × Obj)) : Option Value → Option XV → Prop
  | no : DenO ad R none none
  | is {v : Value} {x : XV} : Den ad R v x → DenO ad R (some v) (some x)
inductive Ents (P : Params) (ad : List Addr) (R : List (Addr × Obj)) : List DictEntry → List (Str × XV) → Prop
  | nil : Ents P ad R [] []
  | cons {x : Str} {t : Tok} {v : Value} {y : XV} {es : List DictEntry} {fs : List (Str × XV)} : Den ad R v y → Ents P ad R es fs → Ents P ad R (⟨PyData.keyHash P x, .str x t, v⟩ :: es) ((x, y) :: fs)
noncomputable def Row1 (P : Params) (ad : List Addr) (R : List (Addr × Obj)) : MO → Addr → List (Addr × Obj) → Prop
  | .gone, _, X => X = []
  | .lst xs, a, X => ∃ (vs : List Value) (n : Nat), TAll R vs xs ∧ X = [(a, listOf vs.toArray n)]
  | .inst C fs, a, X => ∃ (dx : Addr) (es : List DictEntry), Ents P ad R es fs ∧ X = [(a, instObj C dx), (dx, dictOf es fs.length)]
  | .cell x, a, X => ∃ (o : Obj) (u : Option Value), o.data = .cell u ∧ DenO ad R u x ∧ X = [(a, o)]
  | .lsx xs, a, X => ∃ (vs : List Value) (n : Nat), DenL ad R vs xs ∧ X = [(a, listOf vs.toArray n)]
inductive Rows (P : Params) (ad : List Addr) (R : List (Addr × Obj)) : List MO → List Addr → List (Addr × Obj) → Prop
  | nil : Rows P ad R [] [] []
  | cons {m : MO} {a : Addr} {X : List (Addr × Obj)} {ob : List MO} {as : List Addr} {O : List (Addr × Obj)} : Row1 P ad R m a X → Rows P ad R ob as O → Rows P ad R (m :: ob) (a :: as) (X ++ O)

noncomputable def allD : List XV → Option (List Dat)
  | [] => some []
  | .d x :: r => match allD r with
    | some l => some (x :: l)
    | none => none
  | _ :: _ => none
noncomputable def mkT (xs : List XV) : XV := match allD xs with
  | some l => .d (.tuple l)
  | none => .t xs
noncomputable def partsX : XV → Option (List XV)
  | .d (.tuple l) => some (l.map .d)
  | .t xs => some xs
  | _ => none
noncomputable def stb1 (un : Bool) : XV → Bool
  | .o k => !un || k != 2
  | .t _ => false
  | _ => true
noncomputable def stb (un : Bool) : XV → Bool
  | .t xs => xs.all (stb1 un)
  | x => stb1 un x
noncomputable def kindE : Expr → Nat
  | .Name .. => 0
  | .Constant .. => 1
  | .Starred .. => 3
  | .ListComp .. => 4
  | .SetComp .. => 4
  | .DictComp .. => 4
  | .Set .. => 5
  | .Slice .. => 6
  | .Attribute .. => 7
  | .Call .. => 8
  | .Subscript .. => 9
  | _ => 2
noncomputable def still (e : Expr) : Bool := Nat.blt (kindE e) 2
structure Cfg where
  names : List (Str × NameKind)
  un : Bool
  big : Bool
  call : Addr → List XV → List MO → (XV → List MO → Prop) → Prop
inductive XF where
  | next
  | ret (v : XV)
noncomputable def globT : List (Str × XV) :=
  [("CHAR", .d (.int 0)), ("ANY", .d (.int 1)), ("CLASS", .d (.int 2)), ("START", .d (.int 3)), ("END", .d (.int 4)), ("BOUNDARY", .d (.int 5)), ("OPEN", .d (.int 6)), ("CLOSE", .d (.int 7)), ("BACK", .d (.int 8)), ("LOOK", .d (.int 9)),
   ("SPLIT", .d (.int 10)), ("JUMP", .d (.int 11)), ("LOOP", .d (.int 12)), ("HEAD", .d (.int 13)), ("TAIL", .d (.int 14)), ("MET", .d (.int 15)), ("KEPT_HEAD", .d (.int 32)), ("MOST_KEPT", .d (.int 100000000)),
   ("len", .g (.builtin "len")), ("ord", .g (.builtin "ord")), ("range", .g (.type "range")), ("list", .g (.type "list")), ("changed", .g (.ref 214)), ("is_line_end", .g (.ref 22)), ("has", .g (.ref 76)), ("LINE_ENDS", .g (.ref 15)),
   ("Limits", .g (.ref 133)), ("match_at", .g (.ref 305)), ("_law_whole", .g (.ref 326)), ("min", .g (.builtin "min")), ("zip", .g (.type "zip")), ("enumerate", .g (.type "enumerate")), ("isinstance", .g (.builtin "isinstance")), ("tuple", .g (.type "tuple")), ("_law_term", .g (.ref 319)), ("pattern_code", .g (.ref 207)), ("PatternCode", .g (.ref 196)), ("Search", .g (.ref 287)), ("match_code", .g (.ref 298)), ("group_count", .g (.ref 312))].map fun p => (Str.ofString p.1, p.2)
noncomputable def fnT : List Addr := [133, 305, 214, 22, 76, 326, 319, 207, 298, 312, 196, 287]
noncomputable def methT : List ((Addr × Str) × Addr) :=
  [((196, "emit"), 158), ((196, "put"), 165), ((196, "plain"), 172), ((196, "put_choice"), 179), ((196, "put_group"), 186), ((196, "put_repeat"), 193),
   ((287, "run"), 235), ((287, "keep"), 242), ((287, "advance"), 249), ((287, "takes"), 256), ((287, "stands"), 263), ((287, "again"), 270), ((287, "look"), 277), ((287, "repeat"), 284)].map fun p => ((p.1.1, Str.ofString p.1.2), p.2)
noncomputable def attrT : List (Addr × Str) := [(133, "depth"), (133, "frames"), (133, "steps"), (133, "text"), (196, "steps"), (196, "loops"), (287, "steps"), (287, "text"), (287, "ignores_case"), (287, "is_multiline"), (287, "left"), (287, "waiting")].map fun p => (p.1, Str.ofString p.2)

noncomputable def optX {α : Type} (o : Option α) (k : α → Prop) : Prop := match o with
  | some a => k a
  | none => False
noncomputable def constX (k : Const) (P : XV → Prop) : Prop := match k with
  | .none => P (.d .none)
  | .int i => P (.d (.int i))
  | .str s => P (.d (.str s))
  | .bool b => P (.d (.bool b))
  | _ => False
noncomputable def asI : XV → Option Int
  | .d (.int i) => some i
  | _ => none
noncomputable def asS : XV → Option Str
  | .d (.str x) => some x
  | _ => none
noncomputable def asB : XV → Option Bool
  | .d (.bool b) => some b
  | _ => none
noncomputable def asT : XV → Option (List Dat)
  | .d (.tuple l) => some l
  | _ => none
noncomputable def isNo : XV → Bool
  | .d .none => true
  | _ => false
noncomputable def isT : XV → Bool
  | .t _ => true
  | _ => false
noncomputable def noX (x : XV) : Option Bool := cond (isNo x) (some true) (cond ((asI x).isSome || ((asT x).isSome || isT x)) (some false) none)
noncomputable def asO : XV → Option Nat
  | .o k => some k
  | _ => none
noncomputable def asD : XV → Option Dat
  | .d x => some x
  | _ => none
noncomputable def lstA : Option MO → Option (List Dat)
  | some (.lst ds) => some ds
  | _ => none
noncomputable def cellA : Option MO → Option XV
  | some (.cell x) => x
  | _ => none
noncomputable def lsxA : Option MO → Option (List XV)
  | some (.lsx xs) => some xs
  | _ => none
noncomputable def onC (x : Str) (l : List (Str × XV)) (ob : List MO) (K : Nat → XV → Prop) : Prop := optX (l.lookup x) fun v => optX (asO v) fun k => optX (cellA ob[k]?) fun y => K k y
noncomputable def isCO : Option MO → Bool
  | some (.cell _) => true
  | _ => false
noncomputable def onK (x : Str) (l : List (Str × XV)) (ob : List MO) (K : Nat → Prop) : Prop := optX (l.lookup x) fun v => optX (asO v) fun k => cond (isCO ob[k]?) (K k) False
noncomputable def isCell (k : Option NameKind) : Bool := k == some .cell
noncomputable def nameX (c : Cfg) (x : Str) (l : List (Str × XV)) (ob : List MO) (P : XV → Prop) : Prop := cond (c.names.lookup x == some .local) (optX (l.lookup x) P) (cond (c.names.lookup x == some .globalImplicit) (optX (globT.lookup x) P) (cond (isCell (c.names.lookup x)) (onC x l ob fun _ y => P y) False))
noncomputable def datE (ob : List MO) : XV → Option Dat
  | .d x => some x
  | .o k => (lstA ob[k]?).map .list
  | _ => none
noncomputable def datL (ob : List MO) (xs : List XV) : Option (List Dat) := xs.foldr (fun x r => (datE ob x).bind fun d => r.map (d :: ·)) (some [])
noncomputable def datX (ob : List MO) : XV → Option Dat
  | .t xs => (datL ob xs).map .tuple
  | x => datE ob x
noncomputable def intsA : List Dat → Option (List Int)
  | [] => some []
  | .int i :: r => (intsA r).map (i :: ·)
  | _ :: _ => none
noncomputable def cmpX (big : Bool) (op : CmpOp) (x y : XV) (ob : List MO) (P : Bool → Prop) : Prop := match op with
  | .Eq => cond (asI x).isSome (optX (asI x) fun a => optX (asI y) fun b => P (a == b)) (cond (asO x).isSome (cond big (optX (datX ob x) fun a => optX (datX ob y) fun b => (kqdOk 8 a = true ∧ kqdOk 8 b = true) ∧ ∀ r : Bool, (r = true ↔ a = b) → P r) False) (optX (asS y) fun b => cond (asT x).isSome (P false) (optX (asS x) fun a => P (a == b))))
  | .NotEq => cond (asI x).isSome (optX (asI x) fun a => optX (asI y) fun b => P (a != b)) (cond (asB x).isSome (optX (asB x) fun a => optX (asB y) fun b => P (a != b)) (cond (asS x).isSome (optX (asS x) fun a => optX (asS y) fun b => P (a != b)) (cond big (optX (datX ob x) fun a => optX (datX ob y) fun b => (kqdOk 8 a = true ∧ kqdOk 8 b = true) ∧ ∀ r : Bool, (r = true ↔ a ≠ b) → P r) False)))
  | .Lt => optX (asI x) fun a => optX (asI y) fun b => P (decide (a < b))
  | .LtE => optX (asI x) fun a => optX (asI y) fun b => P (decide (a ≤ b))
  | .Gt => optX (asI x) fun a => optX (asI y) fun b => P (decide (b < a))
  | .GtE => optX (asI x) fun a => optX (asI y) fun b => P (decide (b ≤ a))
  | .Is => cond (isNo y) (optX (noX x) P) False
  | .IsNot => cond (isNo y) (optX (noX x) fun b => P (!b)) False
  | .In => optX (asS x) fun a => optX (asS y) fun b => P (!(Builtin.Str.occurrences b a 0 b.length 1).isEmpty)
  | .NotIn => optX (asI x) fun i => optX (asO y) fun k => optX (lstA ob[k]?) fun ds => optX (intsA ds) fun is => P (!(is.contains i))
noncomputable def truthX (x : XV) (P : Bool → Prop) : Prop := optX (asB x) P
noncomputable def mulT (n : Int) (a : Dat) : Option (List Dat) := cond (n == 0) (some []) (cond (n == 1) (some [a]) (cond (n == 2) (some [a, a]) (cond (n == 3) (some [a, a, a]) none)))
noncomputable def oneX : List Dat → Option Dat
  | [a] => some a
  | _ => none
noncomputable def binX (op : Operator) (x y : XV) (P : XV → Prop) : Prop := match op with
  | .Add => cond (asI x).isSome (optX (asI x) fun a => optX (asI y) fun b => P (.d (.int (a + b)))) (cond (asT x).isSome (optX (asT x) fun a => optX (asT y) fun b => a.length + b.length ≤ 1000 ∧ P (.d (.tuple (a ++ b)))) (optX (asS x) fun a => optX (asS y) fun b => a.length + b.length ≤ 1000 ∧ P (.d (.str (a ++ b)))))
  | .Sub => optX (asI x) fun a => optX (asI y) fun b => P (.d (.int (a - b)))
  | .Mult => cond (asI x).isSome (optX (asI x) fun a => optX (asI y) fun b => (0 ≤ a ∧ a ≤ 100000) ∧ P (.d (.int (a * b)))) (optX (asT x) fun l => optX (oneX l) fun a => optX (asI y) fun n => optX (mulT n a) fun r => P (.d (.tuple r)))
  | .FloorDiv => optX (asI x) fun a => optX (asI y) fun b => cond (b != 0 && Nat.ble b.natAbs 1000000) (P (.d (.int (a.fdiv b)))) False
  | .Mod => optX (asI x) fun a => optX (asI y) fun b => cond (b != 0) (P (.d (.int (a.fmod b)))) False
  | _ => False
noncomputable def mulLX (x y : XV) (ob : List MO) (P : XV → List MO → Prop) : Prop := optX (asI y) fun n => optX (asO x) fun k => optX (lstA ob[k]?) fun ds => optX (oneX ds) fun a => (0 ≤ n ∧ n ≤ 1000) ∧ P (.o ob.length) (ob ++ [.lst (List.replicate n.toNat a)])
noncomputable def binOX (op : Operator) (x y : XV) (ob : List MO) (P : XV → List MO → Prop) : Prop := match op with
  | .Mult => cond (asO x).isSome (mulLX x y ob P) (binX .Mult x y fun v => P v ob)
  | op => binX op x y fun v => P v ob
noncomputable def iopX (op : Operator) (x y : XV) (P : XV → Prop) : Prop := match op with
  | .Add => optX (asI x) fun a => optX (asI y) fun b => P (.d (.int (a + b)))
  | .Sub => optX (asI x) fun a => optX (asI y) fun b => P (.d (.int (a - b)))
  | _ => False
noncomputable def unX (op : UnaryOp) (x : XV) (P : XV → Prop) : Prop := match op with
  | .USub => optX (asI x) fun a => P (.d (.int (-a)))
  | .Not => optX (asB x) fun b => P (.d (.bool (!b)))
  | _ => False
noncomputable def instA : Option MO → Option (Addr × List (Str × XV))
  | some (.inst C fs) => some (C, fs)
  | _ => none
noncomputable def onL (x : XV) (ob : List MO) (k : Nat → List Dat → Prop) : Prop := optX (asO x) fun n => optX (lstA ob[n]?) (k n)
noncomputable def onI (x : XV) (ob : List MO) (k : Nat → Addr → List (Str × XV) → Prop) : Prop := optX (asO x) fun n => optX (instA ob[n]?) fun p => k n p.1 p.2
noncomputable def oneL : List XV → Option XV
  | [x] => some x
  | _ => none
noncomputable def twoL : List XV → Option (XV × XV)
  | [x, y] => some (x, y)
  | _ => none
noncomputable def clip (n : Nat) (d : Nat) : Option Int → Nat
  | none => d
  | some i => if i < 0 then (i + n).toNat else min i.toNat n
noncomputable def sliceX (x : XV) (lo hi : Option Int) (ob : List MO) (P : XV → List MO → Prop) : Prop := cond (asT x).isSome
  (optX (asT x) fun ds => (ds.length ≤ 1000 ∧ clip ds.length 0 lo ≤ clip ds.length ds.length hi ∧ clip ds.length ds.length hi - clip ds.length 0 lo < ds.length) ∧
      P (.d (.tuple ((ds.drop (clip ds.length 0 lo)).take (clip ds.length ds.length hi - clip ds.length 0 lo)))) ob)
  (cond (asS x).isSome (optX (asS x) fun s => optX lo fun a => optX hi fun b => s.length ≤ 1000 ∧ P (.d (.str (Txt.slice s (some a) (some b)))) ob) (cond lo.isNone (optX hi fun h => onL x ob fun _ ds => (ds.length ≤ 100000 ∧ 0 ≤ h) ∧ P (.o ob.length) (ob ++ [.lst (ds.take h.toNat)])) False))
noncomputable def tupA : XV → Option (List XV)
  | .t xs => some xs
  | _ => none
noncomputable def lsxO (x : XV) (ob : List MO) : Option (List XV) := (asO x).bind fun k => lsxA ob[k]?
noncomputable def atX (xs : List XV) (i : Int) (P : XV → Prop) : Prop := ∃ (j : Nat) (v : XV), i = j ∧ xs[j]? = some v ∧ xs.length ≤ 1000 ∧ P v
noncomputable def itemX (x y : XV) (ob : List MO) (P : XV → Prop) : Prop := optX (asI y) fun i => cond (asT x).isSome
  (optX (asT x) fun ds => ∃ (j : Nat) (v : Dat), seqIndex? i ds.length = some j ∧ ds[j]? = some v ∧ ds.length ≤ 1000 ∧ P (.d v))
  (cond (asS x).isSome (optX (asS x) fun s => ∃ (j k : Nat), i = j ∧ s.cps.toList[j]? = some k ∧ s.cps.toList.length ≤ 1000 ∧ P (.d (.str ⟨#[k]⟩)))
    (cond (tupA x).isSome (optX (tupA x) fun xs => atX xs i P) (cond (lsxO x ob).isSome (optX (lsxO x ob) fun xs => atX xs i P)
    (onL x ob fun _ ds => ∃ (j : Nat) (v : Dat), i = j ∧ ds[j]? = some v ∧ ds.length ≤ 100000 ∧ P (.d v)))))
noncomputable def hdX : XV → Option Dat
  | .t (.d d :: _) => some d
  | _ => none
noncomputable def firstsX (xs : List XV) : Option (List Dat) := xs.foldr (fun x r => (hdX x).bind fun d => r.map (d :: ·)) (some [])
noncomputable def FirstP (e : Expr) (gs : List Comprehension) (x y : Str) : Prop := ∃ p1 k p2 p3 p4 p5, e = .Subscript (.Name x p1) (.Constant (.int 0) k p2) p3 ∧ gs = [⟨.Name x p4, .Name y p5, [], 0⟩]
noncomputable def scPlain (sc : Scope) : Bool := sc.kind == .function && sc.names.all fun p => p.2 != .cell && (p.2 != .local || sc.names.lookup p.1 == some .local) && p.1 != "__debug__"
noncomputable def notSl (e : Expr) : Bool := !Nat.beq (kindE e) 6
noncomputable def isDO : XV → Bool
  | .d _ => true
  | .o _ => true
  | _ => false
noncomputable def attrX (x : XV) (nm : Str) (ob : List MO) (P : XV → Prop) : Prop := onI x ob fun _ C fs => cond (attrT.contains (C, nm)) (optX (fs.lookup nm) fun v => cond (isDO v) (P v) False) False
noncomputable def lenX (x : XV) (ob : List MO) (P : Int → Prop) : Prop := cond (asT x).isSome (optX (asT x) fun ds => ds.length ≤ 1000 ∧ P ds.length)
  (cond (asS x).isSome (optX (asS x) fun s => s.cps.toList.length ≤ 1000 ∧ P s.cps.toList.length) (onL x ob fun _ ds => ds.length ≤ 100000 ∧ P ds.length))
inductive XG where
  | own (f : Addr)
  | len | ord | isi | list | min
noncomputable def kindV : Value → Option XG
  | .ref a => cond (fnT.contains a) (some (.own a)) none
  | .builtin n => cond (n == "len") (some .len) (cond (n == "ord") (some .ord) (cond (n == "isinstance") (some .isi) (cond (n == "min") (some .min) none)))
  | .type n => cond (n == "list") (some .list) none
  | _ => none
noncomputable def asG : XV → Option Value
  | .g v => some v
  | _ => none
noncomputable def kindG (x : XV) : Option XG := (asG x).bind kindV
noncomputable def isOwn : XG → Bool
  | .own _ => true
  | _ => false
noncomputable def isTup : Dat → Bool
  | .tuple _ => true
  | _ => false
noncomputable def isTy (x : XV) : Bool := (asG x) == some (.type "tuple")
noncomputable def listX (xs : List XV) (ob : List MO) (P : XV → List MO → Prop) : Prop := optX (oneL xs) fun x => optX (asT x) fun ds => ds.length ≤ 1000 ∧ P (.o ob.length) (ob ++ [.lst ds])
noncomputable def callX (c : Cfg) (f : XG) (xs : List XV) (ob : List MO) (P : XV → List MO → Prop) : Prop := match f with
  | .own a => c.call a xs ob P
  | .len => optX (oneL xs) fun x => lenX x ob fun i => P (.d (.int i)) ob
  | .ord => optX (oneL xs) fun x => optX (asS x) fun s => ∃ k : Nat, s = ⟨#[k]⟩ ∧ P (.d (.int k)) ob
  | .isi => optX (twoL xs) fun p => cond (isTy p.2) (optX (asD p.1) fun d => P (.d (.bool (isTup d))) ob) False
  | .list => listX xs ob P
  | .min => optX (twoL xs) fun p => optX (asI p.1) fun a => optX (asI p.2) fun b => P (.d (.int (if b < a then b else a))) ob
noncomputable def isNA (e : Expr) : Bool := Nat.beq (kindE e) 0 || Nat.beq (kindE e) 7
inductive XM where
  | own (f : Addr)
  | app | pop | ext
noncomputable def lmethX (nm : Str) : Option XM := cond (nm == Str.ofString "append") (some .app) (cond (nm == Str.ofString "pop") (some .pop) (cond (nm == Str.ofString "extend") (some .ext) none))
noncomputable def imethX (nm : Str) (p : Addr × List (Str × XV)) : Option XM := cond (p.2.lookup nm).isNone ((methT.lookup (p.1, nm)).map .own) none
noncomputable def methX (x : XV) (nm : Str) (ob : List MO) : Option XM := (asO x).bind fun k => cond (instA ob[k]?).isSome ((instA ob[k]?).bind (imethX nm)) ((lstA ob[k]?).bind fun _ => lmethX nm)
noncomputable def appX (x : XV) (xs : List XV) (ob : List MO) (P : XV → List MO → Prop) : Prop := optX (oneL xs) fun v => optX (asD v) fun y => onL x ob fun k ds => ds.length ≤ 100000 ∧ P (.d .none) (ob.set k (.lst (ds ++ [y])))
noncomputable def extX (x : XV) (xs : List XV) (ob : List MO) (P : XV → List MO → Prop) : Prop := optX (oneL xs) fun v => optX (asT v) fun es => onL x ob fun k ds => (es ≠ [] ∧ ds.length + es.length ≤ 100000) ∧ P (.d .none) (ob.set k (.lst (ds ++ es)))
noncomputable def popX (x : XV) (ob : List MO) (P : XV → List MO → Prop) : Prop := onL x ob fun k ds => ∃ (ds' : List Dat) (y : Dat), ds = ds' ++ [y] ∧ ds'.length ≤ 100000 ∧ P (.d y) (ob.set k (.lst ds'))
noncomputable def mcallX (c : Cfg) (x : XV) (M : XM) (xs : List XV) (ob : List MO) (P : XV → List MO → Prop) : Prop := match M with
  | .own f => cond (!xs.isEmpty) (c.call f (x :: xs) ob P) False
  | .app => appX x xs ob P
  | .ext => extX x xs ob P
  | .pop => cond xs.isEmpty (popX x ob P) False
noncomputable def putF (nm : Str) (v : XV) : List (Str × XV) → List (Str × XV)
  | [] => [(nm, v)]
  | (x, y) :: r => if x = nm then (x, v) :: r else (x, y) :: putF nm v r
noncomputable def setAttrX (x : XV) (nm : Str) (v : XV) (ob : List MO) (P : List MO → Prop) : Prop := onI x ob fun k C fs => cond (attrT.contains (C, nm) && Nat.ble fs.length 100) (P (ob.set k (.inst C (putF nm v fs)))) False
noncomputable def newX (xs : List XV) (ob : List MO) (P : XV → List MO → Prop) : Prop := optX (allD xs) fun ds => P (.o ob.length) (ob ++ [.lst ds])
noncomputable def setItemX (x i v : XV) (ob : List MO) (P : List MO → Prop) : Prop := optX (asI i) fun n => optX (asD v) fun y => onL x ob fun k ds => (0 ≤ n ∧ n < ds.length ∧ ds.length ≤ 100000) ∧ P (ob.set k (.lst (ds.set n.toNat y)))
noncomputable def forX (body : List (Str × XV) → List MO → (XF → List (Str × XV) → List MO → Prop) → Prop) (x : Str) (P : XF → List (Str × XV) → List MO → Prop) : List Dat → List (Str × XV) → List MO → Prop
  | [], l, ob => P .next l ob
  | y :: r, l, ob => body ((x, .d y) :: l) ob fun f l' ob' => match f with
    | .next => forX body x P r l' ob'
    | .ret v => P (.ret v) l' ob'
noncomputable def nextX (K : List (Str × XV) → List MO → Prop) : XF → List (Str × XV) → List MO → Prop
  | .next, l, ob => K l ob
  | _, _, _ => False
noncomputable def forC (body : List (Str × XV) → List MO → (XF → List (Str × XV) → List MO → Prop) → Prop) (x : Str) (P : XF → List (Str × XV) → List MO → Prop) : List Dat → List (Str × XV) → List MO → Prop
  | [], l, ob => P .next l ob
  | y :: r, l, ob => onK x l ob fun k => body l (ob.set k (.cell (some (.d y)))) (nextX fun l' ob' => forC body x P r l' ob')
noncomputable def forZ (a b : Str) (P : XF → List (Str × XV) → List MO → Prop) : List (Nat × Nat) → List (Str × XV) → List MO → Prop
  | [], l, ob => P .next l ob
  | y :: r, l, ob => cond (y.1 == y.2) (forZ a b P r ((b, .d (.str ⟨#[y.2]⟩)) :: (a, .d (.str ⟨#[y.1]⟩)) :: l) ob) (P (.ret (.d .none)) ((b, .d (.str ⟨#[y.2]⟩)) :: (a, .d (.str ⟨#[y.1]⟩)) :: l) ob)
noncomputable def ZipB (body : List Stmt) (a b o nm : Str) : Prop := ∃ p1 p2 p3 p4 p5 r p6 p7 p8 k p9 p10 p11, body = [.If (.BoolOp .And [.Compare (.Name a p1) [.NotEq] [.Name b p2] p3, .UnaryOp .Not (.BoolOp .And (.Attribute (.Name o p4) nm p5 :: r) p6) p7] p8) [.Return (some (.Constant .none k p9)) p10] [] p11]
noncomputable def isFa : XV → Bool
  | .d (.bool b) => !b
  | _ => false
noncomputable def nameOf : Expr → Option Str
  | .Name x _ => some x
  | _ => none
noncomputable def l2 {α : Type} : List α → Option (α × α)
  | [a, b] => some (a, b)
  | _ => none
noncomputable def twoN (ts : List Expr) : Option (Str × Str) := (l2 ts).bind fun p => (nameOf p.1).bind fun a => (nameOf p.2).bind fun b => some (a, b)
noncomputable def callOf : Expr → Option (Str × List Expr)
  | .Call (.Name r _) as [] _ => some (r, as)
  | _ => none
noncomputable def callOf2 (e : Expr) : Option (Str × Expr × Expr) := (callOf e).bind fun p => (l2 p.2).bind fun q => some (p.1, q.1, q.2)
noncomputable def isZip (x : XV) : Bool := (asG x) == some (.type "zip")
noncomputable def isEnum (x : XV) : Bool := (asG x) == some (.type "enumerate")
noncomputable def iterX (v : XV) (ob : List MO) (P : List Dat → List MO → Prop) : Prop := cond (asT v).isSome (optX (asT v) fun ds => P ds ob) (onL v ob fun k ds => P ds (ob.set k .gone))
noncomputable def swapN (c : Cfg) (t v : Expr) : Option (Option (List Str)) := match t, v with
  | .Tuple ts _ _, .Tuple vs _ _ =>
    if !(ts.length == 2 || ts.length == 3) || vs.length != ts.length then some none
    else if vs.any fun | .Starred .. => true | _ => false then some none
    else
      let line := (ts.head?.map (·.pos.line)).getD 0
      let names := ts.filterMap fun
        | .Name id pos => if c.names.lookup id == some .local && pos.line == line then some id else none
        | _ => none
      if names.length != ts.length || names.eraseDups.length != names.length then some none
      else if vs.all (foldedForSure 8) then some none
      else if vs.all (constantsAlone 8) then none
      else some (some names)
  | _, _ => some none
noncomputable def notStar (e : Expr) : Bool := !Nat.beq (kindE e) 3
noncomputable def notComp (e : Expr) : Bool := !Nat.beq (kindE e) 4
noncomputable abbrev rangeOf (e : Expr) : Option (Str × Expr × Expr) := callOf2 e
noncomputable def l1 {α : Type} : List α → Option α
  | [a] => some a
  | _ => none
noncomputable def rangeOf1 (e : Expr) : Option (Str × Expr) := (callOf e).bind fun p => (l1 p.2).bind fun a => some (p.1, a)
noncomputable def rng1X (xs : List XV) (K : List Dat → Prop) : Prop := optX (oneL xs) fun x => optX (asI x) fun i => ∃ n : Nat, (i = n ∧ Builtin.Range.small 0 (n : Int) 1 = true ∧ Builtin.Range.rangeSize 0 (n : Int) 1 = (n : Int)) ∧ K ((List.range n).map fun (k : Nat) => .int k)
noncomputable def isRange (x : XV) : Bool := (asG x) == some (.type "range")
noncomputable def rngX (xs : List XV) (P : Prop) : Prop := optX (twoL xs) fun p => optX (asI p.1) fun a => optX (asI p.2) fun b => (Builtin.Range.small a b 1 = true ∧ Builtin.Range.rangeSize a b 1 = 0) ∧ P
noncomputable def notSet (e : Expr) : Bool := !Nat.beq (kindE e) 5
noncomputable def intX (x : XV) (P : Int → Prop) : Prop := optX (asI x) P
noncomputable def plainT (e : Expr) : Bool := Nat.beq (kindE e) 0 || Nat.blt 6 (kindE e)
mutual
noncomputable def wE (c : Cfg) : Nat → Expr → List (Str × XV) → List MO → (XV → List MO → Prop) → Prop
  | 0, _, _, _, _ => False
  | f + 1, e, l, ob, P => match e with
    | .Name x _ => nameX c x l ob fun v => P v ob
    | .Constant k _ _ => constX k fun v => P v ob
    | .Tuple es _ _ => cond (Nat.ble es.length 1000) (wL c f es l ob fun xs ob' => P (mkT xs) ob') False
    | .List es _ => cond (Nat.ble es.length 1000) (wL c f es l ob fun xs ob' => newX xs ob' P) False
    | .BinOp a op b _ => wE c f a l ob fun x ob1 => cond (stb c.un x || still b) (wE c f b l ob1 fun y ob2 => binOX op x y ob2 P) False
    | .UnaryOp op a _ => wE c f a l ob fun x ob1 => unX op x fun v => P v ob1
    | .BoolOp op es _ => wO c f op es l ob P
    | .Compare a [op] [b] _ => cond (notSet b) (wE c f a l ob fun x ob1 => cond (stb c.un x || still b) (wE c f b l ob1 fun y ob2 => cmpX c.big op x y ob2 fun t => P (.d (.bool t)) ob2) False) False
    | .IfExp t a b _ => wB c f t l ob fun t ob1 => cond t (wE c f a l ob1 P) (wE c f b l ob1 P)
    | .Subscript a (.Slice lo hi none _) _ => wE c f a l ob fun x ob1 => wP c f lo l ob1 fun p ob2 => wP c f hi l ob2 fun q ob3 =>
        cond (stb c.un x || ((match lo with | some e => still e | none => true) && (match hi with | some e => still e | none => true))) (sliceX x p q ob3 P) False
    | .Subscript a i _ => wE c f a l ob fun x ob1 => cond (notSl i && (stb c.un x || still i)) (wE c f i l ob1 fun y ob2 => itemX x y ob2 fun v => P v ob2) False
    | .Attribute (.Name x _) nm _ => nameX c x l ob fun o => attrX o nm ob fun v => P v ob
    | .Call (.Attribute o nm ap) args [] pos => cond (args.all notStar && (isNA o && (ap.endLine == pos.line && Nat.blt args.length 30))) (wE c f o l ob fun x ob1 => optX (methX x nm ob1) fun M => cond (stb c.un x || args.all still) (wL c f args l ob1 fun xs ob2 => mcallX c x M xs ob2 P) False) False
    | .Call (.Name x _) args [] _ => cond (args.all notStar) (nameX c x l ob fun g => optX (kindG g) fun G => cond (!args.isEmpty || isOwn G) (wL c f args l ob fun xs ob2 => callX c G xs ob2 P) False) False
    | .ListComp e gs sc _ => ∃ x y, FirstP e gs x y ∧ cond (scPlain sc && (sc.names.all (fun p => p.2 != .free) && sc.names.lookup x == some .local)) (nameX c y l ob fun v => optX (lsxO v ob) fun xs => optX (firstsX xs) fun ds => xs.length ≤ 1000 ∧ P (.o ob.length) (ob ++ [.lst ds])) False
    | _ => False
noncomputable def wL (c : Cfg) : Nat → List Expr → List (Str × XV) → List MO → (List XV → List MO → Prop) → Prop
  | 0, _, _, _, _ => False
  | f + 1, es, l, ob, P => match es with
    | [] => P [] ob
    | e :: r => cond (notStar e) (wE c f e l ob fun x ob1 => cond (stb c.un x || r.all still) (wL c f r l ob1 fun xs ob2 => P (x :: xs) ob2) False) False
noncomputable def wP (c : Cfg) : Nat → Option Expr → List (Str × XV) → List MO → (Option Int → List MO → Prop) → Prop
  | 0, _, _, _, _ => False
  | f + 1, e, l, ob, P => match e with
    | none => P none ob
    | some e => wE c f e l ob fun x ob1 => intX x fun i => P (some i) ob1
noncomputable def wO (c : Cfg) : Nat → BoolOp → List Expr → List (Str × XV) → List MO → (XV → List MO → Prop) → Prop
  | 0, _, _, _, _, _ => False
  | f + 1, op, es, l, ob, P => match es with
    | [e] => wE c f e l ob P
    | e :: e2 :: r => wE c f e l ob fun x ob1 => truthX x fun t => match op with
      | .And => cond t (wO c f op (e2 :: r) l ob1 P) (P x ob1)
      | .Or => cond t (P x ob1) (wO c f op (e2 :: r) l ob1 P)
    | [] => False
noncomputable def wB (c : Cfg) : Nat → Expr → List (Str × XV) → List MO → (Bool → List MO → Prop) → Prop
  | 0, _, _, _, _ => False
  | f + 1, e, l, ob, P => match e with
    | .Compare a [op] [b] _ => cond (notSet b) (wE c f a l ob fun x ob1 => cond (stb c.un x || still b) (wE c f b l ob1 fun y ob2 => cmpX c.big op x y ob2 fun t => P t ob2) False) False
    | .Compare a (op1 :: op2 :: ops) (e1 :: e2 :: es) _ => cond ((e1 :: e2 :: es).all notSet) (wE c f a l ob fun x ob1 => cond (stb c.un x) (wC c f x (op1 :: op2 :: ops) (e1 :: e2 :: es) l ob1 P) False) False
    | .BoolOp op es _ => wBs c f op es l ob P
    | .UnaryOp .Not a _ => wB c f a l ob fun t ob1 => P (!t) ob1
    | e => cond (plainT e) (wE c f e l ob fun x ob1 => truthX x fun t => P t ob1) False
noncomputable def wC (c : Cfg) : Nat → XV → List CmpOp → List Expr → List (Str × XV) → List MO → (Bool → List MO → Prop) → Prop
  | 0, _, _, _, _, _, _ => False
  | f + 1, x, ops, es, l, ob, P => match ops, es with
    | [op], [e] => wE c f e l ob fun y ob1 => cmpX c.big op x y ob1 fun t => P t ob1
    | op :: op2 :: ops, e :: e2 :: es => wE c f e l ob fun y ob1 => cond (stb c.un y) (cmpX c.big op x y ob1 fun t => cond t (wC c f y (op2 :: ops) (e2 :: es) l ob1 P) (P false ob1)) False
    | _, _ => False
noncomputable def wBs (c : Cfg) : Nat → BoolOp → List Expr → List (Str × XV) → List MO → (Bool → List MO → Prop) → Prop
  | 0, _, _, _, _, _ => False
  | f + 1, op, es, l, ob, P => match es with
    | [] => (match op with
      | .And => P true ob
      | .Or => P false ob)
    | e :: r => wB c f e l ob fun t ob1 => match op with
      | .And => cond t (wBs c f op r l ob1 P) (P false ob1)
      | .Or => cond t (P true ob1) (wBs c f op r l ob1 P)
end
mutual
noncomputable def wA (c : Cfg) : Nat → Expr → XV → List (Str × XV) → List MO → (List (Str × XV) → List MO → Prop) → Prop
  | 0, _, _, _, _, _ => False
  | f + 1, t, v, l, ob, P => match t with
    | .Name x _ => cond (stb c.un v) (cond (c.names.lookup x == some .local) (P ((x, v) :: l) ob) (cond (c.names.lookup x == some .cell) (onK x l ob fun k => P l (ob.set k (.cell (some v)))) False)) False
    | .Tuple ts _ _ => optX (partsX v) fun xs => cond (stb c.un v && ts.all notStar) (ts.length = xs.length ∧ wAs c f ts xs l ob P) False
    | _ => False
noncomputable def wAs (c : Cfg) : Nat → List Expr → List XV → List (Str × XV) → List MO → (List (Str × XV) → List MO → Prop) → Prop
  | 0, _, _, _, _, _ => False
  | f + 1, ts, vs, l, ob, P => match ts, vs with
    | [], _ => P l ob
    | t :: ts, v :: vs => wA c f t v l ob fun l' ob' => wAs c f ts vs l' ob' P
    | _ :: _, [] => False
end
noncomputable def wNs (c : Cfg) : List Str → List XV → List (Str × XV) → (List (Str × XV) → Prop) → Prop
  | [], _, l, P => P l
  | x :: ns, v :: vs, l, P => wNs c ns vs ((x, v) :: l) P
  | _ :: _, [], _, _ => False
noncomputable def subL : List (Str × XV) → List (Str × XV) → Prop
  | [], _ => True
  | (x, v) :: r, l => l.lookup x = some v ∧ subL r l
noncomputable def turnX (P : XF → List (Str × XV) → List MO → Prop) (I : List (Str × XV) → List MO → Nat → Prop) (n : Nat) : XF → List (Str × XV) → List MO → Prop
  | .ret v, l, ob => P (.ret v) l ob
  | _, l, ob => ∃ n' l', n' < n ∧ subL l' l ∧ I l' ob n'
noncomputable def seqX (k : List (Str × XV) → List MO → Prop) (P : XF → List (Str × XV) → List MO → Prop) : XF → List (Str × XV) → List MO → Prop
  | .next, l, ob => k l ob
  | fl, l, ob => P fl l ob
structure CP where
  elt : Expr
  tg : Expr
  it : Expr
  ifs : List Expr
  sc : Scope
  pos : Pos
noncomputable def compP : Expr → Option CP
  | .ListComp elt [⟨tg, it, ifs, a⟩] sc pos => cond (a == 0) (some ⟨elt, tg, it, ifs, sc, pos⟩) none
  | _ => none
noncomputable def compOk (c : Cfg) (l : List (Str × XV)) (q : CP) : Bool := !c.un && scPlain q.sc && notSet q.it && q.sc.names.all fun p => p.2 != .free || (c.names.lookup p.1 == some .cell && ((l.lookup p.1).bind asO).isSome)
noncomputable def relC (c : Cfg) (sc : Scope) : Cfg := { c with names := sc.names.map fun p => if p.2 == .free && c.names.lookup p.1 == some .cell then (p.1, .cell) else p }
noncomputable def cellsL (sc : Scope) (l : List (Str × XV)) : List (Str × XV) := l.filter fun p => sc.names.lookup p.1 == some .free
noncomputable def wIfs (c : Cfg) (f : Nat) (ifs : List Expr) (l : List (Str × XV)) (ob : List MO) (P : Bool → List MO → Prop) : Prop := match ifs with
  | [] => P true ob
  | [e] => wB c f e l ob P
  | _ => False
noncomputable def wTurns (c : Cfg) (f : Nat) (elt : Expr) (ifs : List Expr) (lc : List (Str × XV)) (P : List XV → List MO → Prop) : List (List (Str × XV)) → List XV → List MO → Prop
  | [], ys, ob => P ys ob
  | b :: r, ys, ob => wIfs c f ifs (b ++ lc) ob fun t ob1 => cond t (wE c f elt (b ++ lc) ob1 fun y ob2 => wTurns c f elt ifs lc P r (ys ++ [y]) ob2) (wTurns c f elt ifs lc P r ys ob1)
noncomputable def rng2X (xs : List XV) (K : List Int → Prop) : Prop := optX (twoL xs) fun p => optX (asI p.1) fun a => optX (asI p.2) fun b => ∃ n : Nat, (n ≤ 1000 ∧ Builtin.Range.small a b 1 = true ∧ Builtin.Range.rangeSize a b 1 = (n : Int)) ∧ K ((List.range n).map fun (k : Nat) => a + k)
noncomputable def genX (c : Cfg) (f : Nat) (q : CP) (l : List (Str × XV)) (ob : List MO) (K : List (List (Str × XV)) → List MO → Prop) : Prop := match q.tg with
  | .Name x _ => cond (q.sc.names.lookup x == some .local) (match rangeOf q.it with
    | some (r, a, b) => nameX c r l ob fun g => cond (isRange g && (notStar a && notStar b)) (wL c f [a, b] l ob fun xs ob2 => rng2X xs fun is => K (is.map fun i => [(x, .d (.int i))]) ob2) False
    | none => wE c f q.it l ob fun v ob' => optX (asT v) fun ds => ds.length ≤ 1000 ∧ K (ds.map fun d => [(x, .d d)]) ob') False
  | .Tuple ts _ _ => optX (twoN ts) fun ab => cond ((q.sc.names.lookup ab.1 == some .local && q.sc.names.lookup ab.2 == some .local) && ab.1 != ab.2) (optX (rangeOf1 q.it) fun e => nameX c e.1 l ob fun g => cond (isEnum g && notStar e.2) (wL c f [e.2] l ob fun xs ob2 => optX (oneL xs) fun v => onL v ob2 fun k ds => ds.length ≤ 1000 ∧ K (ds.zipIdx.map fun p => [(ab.2, .d p.1), (ab.1, .d (.int p.2))]) (ob2.set k .gone)) False) False
  | _ => False
noncomputable def compX (c : Cfg) (f : Nat) (q : CP) (l : List (Str × XV)) (ob : List MO) (P : List XV → List MO → Prop) : Prop := genX c f q l ob fun bs ob1 => wTurns (relC c q.sc) f q.elt q.ifs (cellsL q.sc l) P bs [] ob1
noncomputable def mkL (ys : List XV) : MO := match allD ys with
  | some ds => .lst ds
  | none => .lsx ys
mutual
noncomputable def wS (c : Cfg) : Nat → Stmt → List (Str × XV) → List MO → (XF → List (Str × XV) → List MO → Prop) → Prop
  | 0, _, _, _, _ => False
  | f + 1, st, l, ob, P => match st with
    | .Expr e _ => cond (notComp e) (wE c f e l ob fun _ ob' => P .next l ob') False
    | .Assign [.Name x xp] v _ => cond (compP v).isSome (optX (compP v) fun q => cond (compOk c l q && (c.names.lookup x == some .local && (xp.line == q.pos.line && !(q.sc.names.any fun p => p.1 == x && (p.2 == .local || p.2 == .cell))))) (compX c f q l ob fun ys ob2 => P .next ((x, .o ob2.length) :: l) (ob2 ++ [mkL ys])) False)
      (cond (notComp v && c.names.lookup x == some .local) (wE c f v l ob fun y ob' => cond (stb c.un y) (P .next ((x, y) :: l) ob') False) False)
    | .Assign [.Tuple ts k tp] v _ => cond (compP v).isSome (optX (compP v) fun q => cond (compOk c l q && ts.all notStar) (compX c f q l ob fun ys ob2 => optX (allD ys) fun ds => ts.length = ds.length ∧ wAs c f ts (ds.map .d) l (ob2 ++ [.lst ds]) fun l' ob3 => P .next l' ob3) False) (cond (notComp v) (optX (swapN c (.Tuple ts k tp) v) fun sw => wE c f v l ob fun x ob' => match sw with
      | some ns => optX (partsX x) fun xs => cond (stb c.un x) (ns.length = xs.length ∧ wNs c ns.reverse xs.reverse l fun l' => P .next l' ob') False
      | none => wA c f (.Tuple ts k tp) x l ob' fun l' ob2 => P .next l' ob2) False)
    | .Assign [.Subscript o i _] v _ => cond (notComp v) (wE c f v l ob fun x ob1 => cond (stb c.un x) (wE c f o l ob1 fun y ob2 => cond (stb c.un y || still i) (wE c f i l ob2 fun z ob3 => setItemX y z x ob3 fun ob4 => P .next l ob4) False) False) False
    | .Assign [.Attribute o nm _] v _ => cond (notComp v) (wE c f v l ob fun x ob1 => cond (stb c.un x || still o) (wE c f o l ob1 fun y ob2 => setAttrX y nm x ob2 fun ob3 => P .next l ob3) False) False
    | .AugAssign (.Name x _) op v _ => cond (c.names.lookup x == some .local) (optX (l.lookup x) fun a => cond (stb c.un a) (wE c f v l ob fun y ob' => iopX op a y fun r => cond (stb c.un r) (P .next ((x, r) :: l) ob') False) False) False
    | .AugAssign (.Attribute o nm _) op v _ => wE c f o l ob fun x ob1 => attrX x nm ob1 fun a => cond (stb c.un x && stb c.un a) (wE c f v l ob1 fun y ob2 => iopX op a y fun r => setAttrX x nm r ob2 fun ob3 => P .next l ob3) False
    | .If t b e _ => wB c f t l ob fun t ob' => cond t (wSs c f b l ob' P) (wSs c f e l ob' P)
    | .Return (some e) _ => wE c f e l ob fun x ob' => P (.ret x) l ob'
    | .Return none _ => P (.ret (.d .none)) l ob
    | .For (.Name x _) it body [] _ => cond (c.names.lookup x == some .cell) (optX (rangeOf1 it) fun q => nameX c q.1 l ob fun g => cond (isRange g && notStar q.2) (wL c f [q.2] l ob fun xs ob2 => rng1X xs fun ds => forC (fun l ob P => wSs c f body l ob P) x P ds l ob2) False)
      (cond (c.names.lookup x == some .local && notSet it) (match rangeOf it with
      | some (r, a, b) => nameX c r l ob fun g => cond (isRange g && (notStar a && notStar b)) (wL c f [a, b] l ob fun xs ob2 => rngX xs (P .next l ob2)) False
      | none => wE c f it l ob fun v ob' => iterX v ob' fun ds ob2 => forX (fun l ob P => wSs c f body l ob P) x P ds l ob2) False)
    | .For (.Tuple ts _ _) it body [] _ => optX (twoN ts) fun ab => optX (rangeOf it) fun q => ∃ o nm, ZipB body ab.1 ab.2 o nm ∧ cond ((c.names.lookup ab.1 == some .local && c.names.lookup ab.2 == some .local) && ((ab.1 != ab.2 && (notStar q.2.1 && notStar q.2.2)) && (c.names.lookup o == some .local && (o != ab.1 && o != ab.2)))) (nameX c q.1 l ob fun g => cond (isZip g) (wL c f [q.2.1, q.2.2] l ob fun xs ob2 => optX (twoL xs) fun p => optX (asS p.1) fun s1 => optX (asS p.2) fun s2 => optX (l.lookup o) fun v => (attrX v nm ob2 fun y => isFa y = true) ∧ forZ ab.1 ab.2 P (s1.cps.toList.zip s2.cps.toList) l ob2) False) False
    | .While t body [] _ => ∃ (I : List (Str × XV) → List MO → Nat → Prop) (n : Nat) (l0 : List (Str × XV)), subL l0 l ∧ I l0 ob n ∧ ∀ l1 ob1 n1, I l1 ob1 n1 → wB c f t l1 ob1 fun t ob2 => cond t (wSs c f body l1 ob2 (turnX P I n1)) (P .next l1 ob2)
    | _ => False
noncomputable def wSs (c : Cfg) : Nat → List Stmt → List (Str × XV) → List MO → (XF → List (Str × XV) → List MO → Prop) → Prop
  | 0, _, _, _, _ => False
  | f + 1, ss, l, ob, P => match ss with
    | [] => P .next l ob
    | st :: r => wS c f st l ob (seqX (fun l' ob' => wSs c f r l' ob' P) P)
end
end
end
section
open PySem.Calls PySem.Spec

section
variable {ad : List Addr} {R : List (Addr × Obj)}
theorem DenL.ind {p : List Value → List XV → Prop} {vs : List Value} {xs : List XV} (h : DenL ad R vs xs) (h0 : p [] []) (h1 : ∀ v vs x xs, Den ad R v x → p vs xs → p (v :: vs) (x :: xs)) : p vs xs :=
  h.rec (motive_1 := fun _ _ _ => True) (motive_2 := fun vs xs _ => p vs xs) (fun _ => trivial) (fun _ => trivial) (fun _ => trivial) (fun _ _ _ => trivial) h0 fun d _ _ r => h1 _ _ _ _ d r
theorem Den.mono {ad' : List Addr} {R' : List (Addr × Obj)} (ha : ∀ (k : Nat) (a : Addr), ad[k]? = some a → ad'[k]? = some a) (hs : TSub R R') {v : Value} {x : XV} (h : Den ad R v x) : Den ad' R' v x :=
  h.rec (motive_1 := fun v x _ => Den ad' R' v x) (motive_2 := fun vs xs _ => DenL ad' R' vs xs) (fun h => .d (h.mono hs)) (fun h => .o (ha _ _ h)) (fun v => .g v) (fun h _ r => .t (hs _ h ⟨_, _, rfl⟩) r) .nil fun _ _ d r => .cons d r
theorem DenL.mono {ad' : List Addr} {R' : List (Addr × Obj)} (ha : ∀ (k : Nat) (a : Addr), ad[k]? = some a → ad'[k]? = some a) (hs : TSub R R') {vs : List Value} {xs : List XV} (h : DenL ad R vs xs) : DenL ad' R' vs xs :=
  h.ind .nil fun _ _ _ _ d r => .cons (d.mono ha hs) r
end
structure Grow (un q : Bool) (ad ad' : List Addr) (R R' : List (Addr × Obj)) : Prop where
  adr : ∀ (k : Nat) (a : Addr), ad[k]? = some a → (q = true ∨ un = false ∨ k ≠ 2) → ad'[k]? = some a
  ext : ∃ e, Tups e ∧ R' = e ++ R
theorem Grow.refl {un q : Bool} {ad : List Addr} {R : List (Addr × Obj)} : Grow un q ad ad R R := ⟨fun _ _ h _ => h, [], tups_nil, rfl⟩
theorem Grow.sub {un q : Bool} {ad ad' : List Addr} {R R' : List (Addr × Obj)} (G : Grow un q ad ad' R R') : TSub R R' := by
  obtain ⟨e, _, rfl⟩ := G.ext
  exact fun p hp _ => List.mem_append.mpr (.inr hp)
theorem Grow.trans {un q q' q'' : Bool} {ad ad' ad'' : List Addr} {R R' R'' : List (Addr × Obj)} (G : Grow un q ad ad' R R') (H : Grow un q' ad' ad'' R' R'') (h1 : q'' = true → q = true) (h2 : q'' = true → q' = true) : Grow un q'' ad ad'' R R'' := by
  obtain ⟨e, he, rfl⟩ := G.ext
  obtain ⟨e', he', rfl⟩ := H.ext
  exact ⟨fun k a h c => H.adr k a (G.adr k a h (c.imp h1 id)) (c.imp h2 id), e' ++ e, tups_app he' he, by rw [List.append_assoc]⟩
theorem Grow.weak {un q q' : Bool} {ad ad' : List Addr} {R R' : List (Addr × Obj)} (G : Grow un q ad ad' R R') (h : q' = true → q = true) : Grow un q' ad ad' R R' := ⟨fun k a e c => G.adr k a e (c.imp h id), G.ext⟩
theorem DenL.length {ad : List Addr} {R : List (Addr × Obj)} {vs : List Value} {xs : List XV} (h : DenL ad R vs xs) : vs.length = xs.length := h.ind (p := fun vs xs => vs.length = xs.length) rfl fun _ _ _ _ _ r => congrArg (· + 1) r
theorem denL_one {ad : List Addr} {R : List (Addr × Obj)} {vs : List Value} {x : XV} (h : DenL ad R vs [x]) : ∃ v, vs = [v] ∧ Den ad R v x := by
  cases h with
  | cons D r => cases r; exact ⟨_, rfl, D⟩
theorem denL_two {ad : List Addr} {R : List (Addr × Obj)} {vs : List Value} {x y : XV} (h : DenL ad R vs [x, y]) : ∃ v u, vs = [v, u] ∧ Den ad R v x ∧ Den ad R u y := by
  cases h with
  | cons D r =>
    obtain ⟨_, rfl, D2⟩ := denL_one r
    exact ⟨_, _, rfl, D, D2⟩
theorem den_stb1 {un q : Bool} {ad ad' : List Addr} {R R' : List (Addr × Obj)} (G : Grow un q ad ad' R R') {v : Value} {x : XV} (D : Den ad R v x) (h : stb1 un x = true) : Den ad' R' v x := by
  cases D with
  | d k => exact .d (k.mono G.sub)
  | o hk => exact .o (G.adr _ _ hk (.inr (by simpa [stb1] using h)))
  | g v => exact .g v
  | t _ _ => cases h
theorem denL_stb1 {un q : Bool} {ad ad' : List Addr} {R R' : List (Addr × Obj)} (G : Grow un q ad ad' R R') {vs : List Value} {xs : List XV} (D : DenL ad R vs xs) : xs.all (stb1 un) = true → DenL ad' R' vs xs :=
  D.ind (p := fun vs xs => xs.all (stb1 un) = true → DenL ad' R' vs xs) (fun _ => .nil) fun _ _ _ _ d r e => .cons (den_stb1 G d (Bool.and_eq_true_iff.mp e).1) (r (Bool.and_eq_true_iff.mp e).2)
theorem den_grow {un q : Bool} {ad ad' : List Addr} {R R' : List (Addr × Obj)} {v : Value} {x : XV} (D : Den ad R v x) (G : Grow un q ad ad' R R') (h : (stb un x || q) = true) : Den ad' R' v x := by
  rcases Bool.or_eq_true_iff.mp h with h | h
  · cases D with
    | t hm r => exact .t (G.sub _ hm ⟨_, _, rfl⟩) (denL_stb1 G r h)
    | d k => exact .d (k.mono G.sub)
    | o hk => exact den_stb1 G (.o hk) h
    | g v => exact .g v
  · exact D.mono (fun k a e => G.adr k a e (.inl h)) G.sub
theorem allD_tall {ad : List Addr} {R : List (Addr × Obj)} {xs : List XV} {vs : List Value} (D : DenL ad R vs xs) : ∀ {ds : List Dat}, allD xs = some ds → TAll R vs ds :=
  D.ind (p := fun vs xs => ∀ {ds : List Dat}, allD xs = some ds → TAll R vs ds) (fun e => by cases e; exact .nil) fun _ _ x r d k ds e => by
    cases d with
    | d h =>
      cases hl : allD r with
      | none => rw [allD, hl] at e; cases e
      | some l => rw [allD, hl] at e; cases e; exact .cons h (k hl)
    | _ => cases e
theorem tall_denL {ad : List Addr} {R : List (Addr × Obj)} {ds : List Dat} : ∀ {vs : List Value}, TAll R vs ds → DenL ad R vs (ds.map .d) := by
  induction ds with
  | nil => intro vs h; cases h; exact .nil
  | cons d ds ih => intro vs h; cases h with | cons h r => exact .cons (.d h) (ih r)
theorem den_mkT {ad : List Addr} {R : List (Addr × Obj)} {a : Addr} {vs : List Value} {n : Nat} {xs : List XV} (hm : (a, tupO vs n) ∈ R) (h : DenL ad R vs xs) : Den ad R (.ref a) (mkT xs) := by
  unfold mkT
  split
  · rename_i l hl
    exact .d (.tuple hm (allD_tall h hl))
  · exact .t hm h
theorem den_parts {ad : List Addr} {R : List (Addr × Obj)} {v : Value} {x : XV} {xs : List XV} (e : partsX x = some xs) (h : Den ad R v x) : ∃ a vs n, v = .ref a ∧ (a, tupO vs n) ∈ R ∧ DenL ad R vs xs := by
  cases h with
  | d h =>
    cases h with
    | tuple hm r => cases e; exact ⟨_, _, _, rfl, hm, tall_denL r⟩
    | _ => cases e
  | o => cases e
  | g => cases e
  | t hm r => cases e; exact ⟨_, _, _, rfl, hm, r⟩

noncomputable abbrev keys (O : List (Addr × Obj)) : List Addr := O.map (·.1)
theorem upd_left {d : Addr} {o o' : Obj} {O O' R : List (Addr × Obj)} (u : Upd d o o' O O') (h : ∀ p ∈ R, p.1 ≠ d) : Upd d o o' (O ++ R) (O' ++ R) := by
  induction u with
  | head k => exact .head fun p hp => (List.mem_append.mp hp).elim (k p) (h p)
  | tail k _ ih => exact .tail k ih
theorem keys_upd {d : Addr} {o o' : Obj} {O O' : List (Addr × Obj)} (u : Upd d o o' O O') : keys O' = keys O := by
  induction u with
  | head k => rfl
  | tail k _ ih => exact congrArg (List.cons _) ih
theorem nd_off {p : Addr × Obj} {O : List (Addr × Obj)} (h : (keys (p :: O)).Nodup) : ∀ q ∈ O, q.1 ≠ p.1 := fun q hq e => by
  have h' : (p.1 :: keys O).Nodup := h
  have hm : q.1 ∈ keys O := List.mem_map_of_mem hq
  rw [e] at hm
  exact (List.nodup_cons.mp h').1 hm
theorem nd_tail {p : Addr × Obj} {O : List (Addr × Obj)} (h : (keys (p :: O)).Nodup) : (keys O).Nodup := by
  have h' : (p.1 :: keys O).Nodup := h
  exact (List.nodup_cons.mp h').2
section
variable {P : Params} {ad : List Addr} {R : List (Addr × Obj)}
theorem Rows.lst {a : Addr} {vs : List Value} {n : Nat} {xs : List Dat} {ob : List MO} {as : List Addr} {O : List (Addr × Obj)} (h : TAll R vs xs) (r : Rows P ad R ob as O) : Rows P ad R (.lst xs :: ob) (a :: as) ((a, listOf vs.toArray n) :: O) := .cons (m := .lst xs) (X := [(a, listOf vs.toArray n)]) ⟨vs, n, h, rfl⟩ r
theorem Rows.inst {x dx : Addr} {C : Addr} {es : List DictEntry} {fs : List (Str × XV)} {ob : List MO} {as : List Addr} {O : List (Addr × Obj)} (h : Ents P ad R es fs) (r : Rows P ad R ob as O) : Rows P ad R (.inst C fs :: ob) (x :: as) ((x, instObj C dx) :: (dx, dictOf es fs.length) :: O) := .cons (m := .inst C fs) (X := [(x, instObj C dx), (dx, dictOf es fs.length)]) ⟨dx, es, h, rfl⟩ r
theorem Rows.cell {a : Addr} {o : Obj} {u : Option Value} {x : Option XV} {ob : List MO} {as : List Addr} {O : List (Addr × Obj)} (h : o.data = .cell u) (d : DenO ad R u x) (r : Rows P ad R ob as O) : Rows P ad R (.cell x :: ob) (a :: as) ((a, o) :: O) := .cons (m := .cell x) (X := [(a, o)]) ⟨o, u, h, d, rfl⟩ r
theorem Rows.lsx {a : Addr} {vs : List Value} {n : Nat} {xs : List XV} {ob : List MO} {as : List Addr} {O : List (Addr × Obj)} (h : DenL ad R vs xs) (r : Rows P ad R ob as O) : Rows P ad R (.lsx xs :: ob) (a :: as) ((a, listOf vs.toArray n) :: O) := .cons (m := .lsx xs) (X := [(a, listOf vs.toArray n)]) ⟨vs, n, h, rfl⟩ r
theorem rows_join {ob1 ob2 : List MO} {as1 as2 : List Addr} {O1 O2 : List (Addr × Obj)} (h : Rows P ad R ob1 as1 O1) (k : Rows P ad R ob2 as2 O2) : Rows P ad R (ob1 ++ ob2) (as1 ++ as2) (O1 ++ O2) := by
  induction h with
  | nil => exact k
  | cons h _ ih => rw [List.append_assoc]; exact .cons h ih
theorem rows_cons {m : MO} {ob : List MO} {as : List Addr} {O : List (Addr × Obj)} (h : Rows P ad R (m :: ob) as O) : ∃ a as' X O', as = a :: as' ∧ O = X ++ O' ∧ Row1 P ad R m a X ∧ Rows P ad R ob as' O' := by
  cases h with
  | cons h r => exact ⟨_, _, _, _, rfl, rfl, h, r⟩
theorem rows_at {ob : List MO} : ∀ {as : List Addr} {O : List (Addr × Obj)} {k : Nat} {m : MO}, Rows P ad R ob as O → ob[k]? = some m →
    ∃ a X Y Z, as[k]? = some a ∧ O = Y ++ (X ++ Z) ∧ Row1 P ad R m a X ∧ ∀ m' X', Row1 P ad R m' a X' → Rows P ad R (ob.set k m') as (Y ++ (X' ++ Z)) := by
  induction ob with
  | nil => intro as O k m _ e; cases k <;> cases e
  | cons m0 ob ih =>
    intro as O k m h e
    obtain ⟨a, as', X, O', rfl, rfl, h1, h2⟩ := rows_cons h
    cases k with
    | zero => cases e; exact ⟨a, X, [], O', rfl, rfl, h1, fun m' X' h' => show Rows P ad R (m' :: ob) (a :: as') (X' ++ O') from .cons h' h2⟩
    | succ k =>
      obtain ⟨a', X', Y, Z, e1, rfl, h3, h4⟩ := ih h2 e
      exact ⟨a', X', X ++ Y, Z, e1, (List.append_assoc _ _ _).symm, h3, fun m' X'' h' => by rw [List.append_assoc]; exact .cons h1 (h4 m' X'' h')⟩
theorem upd_mid {d : Addr} {o o' : Obj} {Y Z : List (Addr × Obj)} (h : (keys (Y ++ (d, o) :: Z)).Nodup) : Upd d o o' (Y ++ (d, o) :: Z) (Y ++ (d, o') :: Z) := by
  induction Y with
  | nil => exact .head (nd_off h)
  | cons p Y ih => exact .tail (Ne.symm (nd_off h (d, o) (List.mem_append.mpr (.inr (.head _))))) (ih (nd_tail h))
theorem rows_lst {ob : List MO} {as : List Addr} {O : List (Addr × Obj)} {ds : List Dat} {k : Nat} (hr : Rows P ad R ob as O) (e : ob[k]? = some (.lst ds)) (nd : (keys O).Nodup) :
    ∃ a vs n, as[k]? = some a ∧ (a, listOf vs.toArray n) ∈ O ∧ TAll R vs ds ∧ ∀ vs' ds' n', TAll R vs' ds' → ∃ O', Upd a (listOf vs.toArray n) (listOf vs'.toArray n') O O' ∧ Rows P ad R (ob.set k (.lst ds')) as O' := by
  obtain ⟨a, _, Y, Z, h1, rfl, ⟨vs, n, h, rfl⟩, h3⟩ := rows_at hr e
  exact ⟨a, vs, n, h1, List.mem_append.mpr (.inr (.head _)), h, fun vs' ds' n' h' => ⟨_, upd_mid nd, h3 (.lst ds') _ ⟨vs', n', h', rfl⟩⟩⟩
theorem rows_inst {ob : List MO} {as : List Addr} {O : List (Addr × Obj)} {C : Addr} {fs : List (Str × XV)} {k : Nat} (hr : Rows P ad R ob as O) (e : ob[k]? = some (.inst C fs)) (nd : (keys O).Nodup) :
    ∃ x dx es, as[k]? = some x ∧ (x, instObj C dx) ∈ O ∧ (dx, dictOf es fs.length) ∈ O ∧ Ents P ad R es fs ∧ ∀ es' fs', Ents P ad R es' fs' → ∃ O', Upd dx (dictOf es fs.length) (dictOf es' fs'.length) O O' ∧ Rows P ad R (ob.set k (.inst C fs')) as O' := by
  obtain ⟨a, _, Y, Z, h1, rfl, ⟨dx, es, h, rfl⟩, h3⟩ := rows_at hr e
  refine ⟨a, dx, es, h1, List.mem_append.mpr (.inr (.head _)), List.mem_append.mpr (.inr (.tail _ (.head _))), h, fun es' fs' h' => ⟨_, ?_, h3 (.inst C fs') [(a, instObj C dx), (dx, dictOf es' fs'.length)] ⟨dx, es', h', rfl⟩⟩⟩
  have e : ∀ (p q : Addr × Obj), Y ++ ([p, q] ++ Z) = (Y ++ [p]) ++ q :: Z := fun p q => by rw [List.append_assoc]; rfl
  rw [e] at nd ⊢
  rw [e]
  exact upd_mid nd
theorem rows_cell {ob : List MO} {as : List Addr} {O : List (Addr × Obj)} {x : Option XV} {k : Nat} (hr : Rows P ad R ob as O) (e : ob[k]? = some (.cell x)) (nd : (keys O).Nodup) :
    ∃ a o u, as[k]? = some a ∧ (a, o) ∈ O ∧ o.data = .cell u ∧ DenO ad R u x ∧ ∀ o' u' x', o'.data = .cell u' → DenO ad R u' x' → ∃ O', Upd a o o' O O' ∧ Rows P ad R (ob.set k (.cell x')) as O' := by
  obtain ⟨a, _, Y, Z, h1, rfl, ⟨o, u, hd, h, rfl⟩, h3⟩ := rows_at hr e
  exact ⟨a, o, u, h1, List.mem_append.mpr (.inr (.head _)), hd, h, fun o' u' x' hd' h' => ⟨_, upd_mid nd, h3 (.cell x') _ ⟨o', u', hd', h', rfl⟩⟩⟩
theorem rows_lsx {ob : List MO} {as : List Addr} {O : List (Addr × Obj)} {xs : List XV} {k : Nat} (hr : Rows P ad R ob as O) (e : ob[k]? = some (.lsx xs)) : ∃ a vs n, as[k]? = some a ∧ (a, listOf vs.toArray n) ∈ O ∧ DenL ad R vs xs := by
  obtain ⟨a, _, Y, Z, h1, rfl, ⟨vs, n, h, rfl⟩, _⟩ := rows_at hr e
  exact ⟨a, vs, n, h1, List.mem_append.mpr (.inr (.head _)), h⟩
theorem DenO.mono {ad' : List Addr} {R' : List (Addr × Obj)} (ha : ∀ (k : Nat) (a : Addr), ad[k]? = some a → ad'[k]? = some a) (hs : TSub R R') {u : Option Value} {x : Option XV} (h : DenO ad R u x) : DenO ad' R' u x := by
  cases h with
  | no => exact .no
  | is h => exact .is (h.mono ha hs)
theorem Ents.mono {ad' : List Addr} {R' : List (Addr × Obj)} (ha : ∀ (k : Nat) (a : Addr), ad[k]? = some a → ad'[k]? = some a) (hs : TSub R R') {es : List DictEntry} {fs : List (Str × XV)} (h : Ents P ad R es fs) : Ents P ad' R' es fs := by
  induction h with
  | nil => exact .nil
  | cons h _ ih => exact .cons (h.mono ha hs) ih
theorem Row1.mono {ad' : List Addr} {R' : List (Addr × Obj)} (ha : ∀ (k : Nat) (a : Addr), ad[k]? = some a → ad'[k]? = some a) (hs : TSub R R') {m : MO} {a : Addr} {X : List (Addr × Obj)} (h : Row1 P ad R m a X) : Row1 P ad' R' m a X := by
  cases m with
  | gone => exact h
  | lst => exact h.imp fun _ h => h.imp fun _ h => ⟨h.1.mono hs, h.2⟩
  | inst => exact h.imp fun _ h => h.imp fun _ h => ⟨h.1.mono ha hs, h.2⟩
  | cell => exact h.imp fun _ h => h.imp fun _ h => ⟨h.1, h.2.1.mono ha hs, h.2.2⟩
  | lsx => exact h.imp fun _ h => h.imp fun _ h => ⟨h.1.mono ha hs, h.2⟩
theorem Rows.mono {ad' : List Addr} {R' : List (Addr × Obj)} (ha : ∀ (k : Nat) (a : Addr), ad[k]? = some a → ad'[k]? = some a) (hs : TSub R R') {ob : List MO} {as : List Addr} {O : List (Addr × Obj)} (h : Rows P ad R ob as O) : Rows P ad' R' ob as O := by
  induction h with
  | nil => exact .nil
  | cons h _ ih => exact .cons (h.mono ha hs) ih
theorem Rows.length {ob : List MO} {as : List Addr} {O : List (Addr × Obj)} (h : Rows P ad R ob as O) : as.length = ob.length := by
  induction h with
  | nil => rfl
  | cons _ _ ih => exact congrArg (· + 1) ih
theorem Rows.snoc {xs : List Dat} {vs : List Value} {a : Addr} {n : Nat} (h : TAll R vs xs) {ob : List MO} {as : List Addr} {O : List (Addr × Obj)} (k : Rows P ad R ob as O) : Rows P ad R (ob ++ [.lst xs]) (as ++ [a]) (O ++ [(a, listOf vs.toArray n)]) := rows_join k (.lst h .nil)
end
end
section
set_option genSizeOf false
set_option genInjectivity false
open PySem.Calls PySem.Spec
structure Fm where
  c : Cfg
  w : World
  room : Nat
  mean : ExcName → Option Value
  mg : Str → Option Value
  mb : Str → Option Value
  dp : Nat
  uu : Nat
  gd : Option (List Code)
  cn : Str
  cs : Scope
  L : Addr
  a : Addr
  ccd : Value
  cl : List (Str × Addr)
  outer : List Env
  A₀ : Around
  base : Heap
  h₀ : Heap
  E : Value → Shared → Prop
  env : Env
  cm : Option Addr
  mt : Str → Option Value
structure Sg where
  h : Heap
  tk : Nat
  m : Str → Option Value
  ad : List Addr
  O : List (Addr × Obj)
  R : List (Addr × Obj)
noncomputable abbrev Sg.sh (T : Sg) (s : Shared) : Shared := { s with heap := T.h, toks := T.tk }
noncomputable abbrev Sg.tok (T : Sg) (tk : Nat) : Sg := ⟨T.h, tk, T.m, T.ad, T.O, T.R⟩
noncomputable def Rd (F : Fm) (m : Str → Option Value) (R : List (Addr × Obj)) (x : Str) (u : Value) : Prop := cond (isCell (F.c.names.lookup x)) (∃ a, F.env.cells.lookup x = some a ∧ u = .ref a)
  (match F.cm with
  | none => m x = some u
  | some C => ∃ oC m₂, (C, oC) ∈ R ∧ PyProof.Rows.LCg.NsObj oC m₂ ∧ m₂ x = some u)
theorem Rd.mono {F : Fm} {m : Str → Option Value} {R R' : List (Addr × Obj)} {x : Str} {u : Value} (h : Rd F m R x u) (hs : ∀ p ∈ R, p ∈ R') : Rd F m R' x u := by
  unfold Rd at h ⊢
  revert h
  cases isCell (F.c.names.lookup x) with
  | true => exact id
  | false =>
    cases F.cm with
    | none => exact id
    | some C => rintro ⟨oC, m₂, a, b⟩; exact ⟨oC, m₂, hs _ a, b⟩
theorem Rd.top {F : Fm} {m : Str → Option Value} {R : List (Addr × Obj)} {x : Str} {u : Value} (hx : F.c.names.lookup x = some .local) (hc : F.cm = none) : Rd F m R x u ↔ m x = some u := by
  unfold Rd; rw [hx, hc]; exact Iff.rfl
theorem Rd.cellAt {F : Fm} {m : Str → Option Value} {R : List (Addr × Obj)} {x : Str} {u : Value} (hx : isCell (F.c.names.lookup x) = true) : Rd F m R x u ↔ ∃ a, F.env.cells.lookup x = some a ∧ u = .ref a := by
  unfold Rd; rw [hx]; exact Iff.rfl
structure VR (F : Fm) (T : Sg) (l : List (Str × XV)) (ob : List MO) : Prop where
  fr : Fr F.h₀ F.L T.h T.m
  N : News F.h₀ F.L T.h (T.O ++ T.R)
  rows : Rows F.w.params T.ad T.R ob T.ad T.O
  nd : (keys T.O).Nodup
  off : OwnOff T.R (keys T.O)
  mt : ∀ C, F.cm = some C → T.m = F.mt
  loc : ∀ x v, l.lookup x = some v → ∃ u, Rd F T.m T.R x u ∧ Den T.ad T.R u v ∧ stb F.c.un v = true
noncomputable abbrev Gr (F : Fm) (q : Bool) (T T' : Sg) : Prop := Grow F.c.un q T.ad T'.ad T.R T'.R
theorem rows_cls {P : Params} {ad : List Addr} {R : List (Addr × Obj)} {ob : List MO} {as : List Addr} {O : List (Addr × Obj)} (h : Rows P ad R ob as O) : ∀ p ∈ O, NoTup p.2 := by
  have hl : ∀ {vs : List Value} {n : Nat}, NoTup (listOf vs.toArray n) := fun {_ _} => notup_cls (cls_neL rfl (by simp))
  induction h with
  | nil => exact fun _ h => nomatch h
  | cons h _ ih =>
    rename_i m _ _ _ _ _ _
    refine fun p hp => (List.mem_append.mp hp).elim (fun hp => ?_) (ih p)
    cases m with
    | gone => rw [show _ = [] from h] at hp; cases hp
    | lst => obtain ⟨_, _, _, rfl⟩ := h; rw [List.mem_singleton.mp hp]; exact hl
    | inst =>
      obtain ⟨_, _, _, rfl⟩ := h
      exact (List.mem_cons.mp hp).elim (fun e => e ▸ notup_cls (cls_neL rfl (by simp))) fun hp => by rw [List.mem_singleton.mp hp]; exact notup_cls (cls_neL rfl (by simp))
    | cell => obtain ⟨_, _, hd, _, rfl⟩ := h; rw [List.mem_singleton.mp hp]; exact notup_cell hd
    | lsx => obtain ⟨_, _, _, rfl⟩ := h; rw [List.mem_singleton.mp hp]; exact hl
theorem mem_l {A B : List (Addr × Obj)} {p : Addr × Obj} (h : p ∈ A) : p ∈ A ++ B := List.mem_append.mpr (.inl h)
theorem mem_r {A B : List (Addr × Obj)} {p : Addr × Obj} (h : p ∈ B) : p ∈ A ++ B := List.mem_append.mpr (.inr h)
theorem mem_mid {A B C : List (Addr × Obj)} {p : Addr × Obj} (h : p ∈ B ++ (A ++ C)) : p ∈ A ++ (B ++ C) :=
  (List.mem_append.mp h).elim (fun h => mem_r (mem_l h)) fun h => (List.mem_append.mp h).elim mem_l fun h => mem_r (mem_r h)
theorem keys_app {A B : List (Addr × Obj)} : keys (A ++ B) = keys A ++ keys B := List.map_append
theorem keys_mem {A : List (Addr × Obj)} {b : Addr} (h : b ∈ keys A) : ∃ p ∈ A, p.1 = b := List.mem_map.mp h
theorem mem_keys {A : List (Addr × Obj)} {p : Addr × Obj} (h : p ∈ A) : p.1 ∈ keys A := List.mem_map.mpr ⟨p, h, rfl⟩
theorem tsub_right {e R : List (Addr × Obj)} : TSub R (e ++ R) := fun _ hp _ => mem_r hp
theorem ad_left {ad ad2 : List Addr} (k : Nat) (a : Addr) (e : ad[k]? = some a) : (ad ++ ad2)[k]? = some a := by rw [List.getElem?_append_left (List.getElem?_eq_some_iff.mp e).1]; exact e
section
variable {F : Fm} {T : Sg} {l : List (Str × XV)} {ob : List MO}
theorem VR.mem (_ : VR F T l ob) {p : Addr × Obj} (hp : p ∈ T.R) : p ∈ T.O ++ T.R := mem_r hp
theorem VR.memO (_ : VR F T l ob) {p : Addr × Obj} (hp : p ∈ T.O) : p ∈ T.O ++ T.R := mem_l hp
theorem VR.tok (V : VR F T l ob) {tk : Nat} : VR F (T.tok tk) l ob := ⟨V.fr, V.N, V.rows, V.nd, V.off, V.mt, V.loc⟩
theorem VR.ext (V : VR F T l ob) {h' : Heap} {tk : Nat} {e nw : List (Addr × Obj)} (F' : Fr F.h₀ F.L h' T.m) (N' : News F.h₀ F.L h' nw) (hm : ∀ p ∈ T.O ++ (e ++ T.R), p ∈ nw) (he : Tups e) : VR F ⟨h', tk, T.m, T.ad, T.O, e ++ T.R⟩ l ob := by
  have N2 : News F.h₀ F.L h' (T.O ++ (e ++ T.R)) := fun p hp => N' p (hm p hp)
  have ho : OwnOff e (keys T.O) := he.off N2 (fun p hp => mem_r (mem_l hp)) fun b hb => by
    obtain ⟨p, hp, rfl⟩ := keys_mem hb
    exact ⟨p.2, mem_l hp, rows_cls V.rows p hp⟩
  refine ⟨F', N2, V.rows.mono (fun _ _ h => h) tsub_right, V.nd, off_append ho V.off, V.mt, fun x v hx => ?_⟩
  obtain ⟨u, a, b, c⟩ := V.loc x v hx
  exact ⟨u, a.mono (fun _ => mem_r), b.mono (fun _ _ h => h) tsub_right, c⟩
theorem VR.same (V : VR F T l ob) {h' : Heap} {tk : Nat} (F' : Fr F.h₀ F.L h' T.m) (N' : News F.h₀ F.L h' (T.O ++ T.R)) : VR F ⟨h', tk, T.m, T.ad, T.O, T.R⟩ l ob := V.ext (e := []) F' N' (fun _ h => h) tups_nil
theorem VR.tup (V : VR F T l ob) {h' : Heap} {tk : Nat} {D : Addr} {vs : List Value} {n : Nat} (F' : Fr F.h₀ F.L h' T.m) (N' : News F.h₀ F.L h' ((D, tupO vs n) :: (T.O ++ T.R))) : VR F ⟨h', tk, T.m, T.ad, T.O, (D, tupO vs n) :: T.R⟩ l ob :=
  V.ext (e := [_]) F' N' (fun p hp => (List.mem_append.mp hp).elim (fun hp => .tail _ (mem_l hp)) fun hp => (List.mem_cons.mp hp).elim (fun e => e ▸ .head _) fun hp => .tail _ (mem_r hp)) (tups_cons tups_nil)
theorem grow_tup {un : Bool} {ad : List Addr} {R : List (Addr × Obj)} {D : Addr} {vs : List Value} {n : Nat} : Grow un true ad ad R ((D, tupO vs n) :: R) := ⟨fun _ _ h _ => h, [_], tups_cons tups_nil, rfl⟩
theorem VR.upd (V : VR F T l ob) {h' : Heap} {tk : Nat} {O' : List (Addr × Obj)} {ob' : List MO} (F' : Fr F.h₀ F.L h' T.m) (N' : News F.h₀ F.L h' (O' ++ T.R)) (hk : keys O' = keys T.O) (hr : Rows F.w.params T.ad T.R ob' T.ad O') : VR F ⟨h', tk, T.m, T.ad, O', T.R⟩ l ob' :=
  ⟨F', N', hr, hk ▸ V.nd, hk ▸ V.off, V.mt, V.loc⟩
theorem off_key (V : VR F T l ob) {d : Addr} {o : Obj} (hd : (d, o) ∈ T.O) : ∀ p ∈ T.R, p.1 ≠ d := fun p hp => V.off p hp d (mem_keys hd)
theorem VR.newM (V : VR F T l ob) {h' : Heap} {tk : Nat} {D : Addr} {vs : List Value} {m : MO} {n : Nat} (hx : Rows F.w.params T.ad T.R [m] [D] [(D, listOf vs.toArray n)]) (F' : Fr F.h₀ F.L h' T.m) (N' : News F.h₀ F.L h' ((D, listOf vs.toArray n) :: (T.O ++ T.R))) (l1 : ∀ p ∈ T.O ++ T.R, p.1 ≠ D) :
    VR F ⟨h', tk, T.m, T.ad ++ [D], T.O ++ [(D, listOf vs.toArray n)], T.R⟩ l (ob ++ [m]) := by
  refine ⟨F', fun p hp => N' p ?_, (rows_join V.rows hx).mono ad_left tsub_refl, ?_, ?_, V.mt, fun x v hx' => ?_⟩
  · exact (List.mem_append.mp hp).elim (fun hp => (List.mem_append.mp hp).elim (fun hp => .tail _ (mem_l hp)) fun hp => List.mem_singleton.mp hp ▸ .head _) fun hp => .tail _ (mem_r hp)
  · rw [keys_app]
    refine List.nodup_append.mpr ⟨V.nd, List.nodup_cons.mpr ⟨(fun h => nomatch h), List.nodup_nil⟩, fun a ha b hb e => ?_⟩
    obtain ⟨p, hp, rfl⟩ := keys_mem ha
    exact l1 p (mem_l hp) (e.trans (List.mem_singleton.mp hb))
  · rw [keys_app]
    intro p hp b hb
    rcases List.mem_append.mp hb with hb | hb
    · exact V.off p hp b hb
    · rw [List.mem_singleton.mp hb]; exact l1 p (mem_r hp)
  · obtain ⟨u, a, b, c⟩ := V.loc x v hx'
    exact ⟨u, a, b.mono ad_left tsub_refl, c⟩
theorem VR.newL (V : VR F T l ob) {h' : Heap} {tk : Nat} {D : Addr} {vs : List Value} {xs : List Dat} {n : Nat} (hx : TAll T.R vs xs) (F' : Fr F.h₀ F.L h' T.m) (N' : News F.h₀ F.L h' ((D, listOf vs.toArray n) :: (T.O ++ T.R))) (l1 : ∀ p ∈ T.O ++ T.R, p.1 < D) :
    VR F ⟨h', tk, T.m, T.ad ++ [D], T.O ++ [(D, listOf vs.toArray n)], T.R⟩ l (ob ++ [.lst xs]) := V.newM (.lst hx .nil) F' N' fun p hp => Nat.ne_of_lt (l1 p hp)
theorem grow_new {un : Bool} {ad : List Addr} {R : List (Addr × Obj)} {D : Addr} : Grow un true ad (ad ++ [D]) R R := ⟨fun k a e _ => ad_left k a e, [], tups_nil, rfl⟩
theorem den_new (V : VR F T l ob) {D : Addr} {R : List (Addr × Obj)} : Den (T.ad ++ [D]) R (.ref D) (.o ob.length) := .o (by rw [← V.rows.length]; simp)
end
end
section
open PySem.Calls PySem.Spec

theorem den_int {ad : List Addr} {R : List (Addr × Obj)} {v : Value} {i : Int} : Den ad R v (.d (.int i)) → ∃ t, v = .int i t
  | .d h => dat_int h
theorem den_str {ad : List Addr} {R : List (Addr × Obj)} {v : Value} {x : Str} : Den ad R v (.d (.str x)) → ∃ t, v = .str x t
  | .d h => dat_str h
theorem den_bool {ad : List Addr} {R : List (Addr × Obj)} {v : Value} {b : Bool} : Den ad R v (.d (.bool b)) → v = .bool b
  | .d h => dat_bool h
theorem den_none {ad : List Addr} {R : List (Addr × Obj)} {v : Value} : Den ad R v (.d .none) → v = .none
  | .d h => dat_none h
theorem den_tup {ad : List Addr} {R : List (Addr × Obj)} {v : Value} {ds : List Dat} : Den ad R v (.d (.tuple ds)) → ∃ a vs n, v = .ref a ∧ (a, tupO vs n) ∈ R ∧ TAll R vs ds
  | .d h => dat_tuple h
theorem den_g {ad : List Addr} {R : List (Addr × Obj)} {v u : Value} : Den ad R v (.g u) → v = u
  | .g _ => rfl
theorem den_o {ad : List Addr} {R : List (Addr × Obj)} {v : Value} {k : Nat} : Den ad R v (.o k) → ∃ a, v = .ref a ∧ ad[k]? = some a
  | .o h => ⟨_, rfl, h⟩
theorem TAll.drop {im : List (Addr × Obj)} {vs : List Value} {ds : List Dat} (h : TAll im vs ds) (k : Nat) : TAll im (vs.drop k) (ds.drop k) := by
  induction vs generalizing ds k with
  | nil => cases h; simp; exact .nil
  | cons v vs ih =>
    cases h with
    | cons a b =>
      cases k with
      | zero => exact .cons a b
      | succ k => exact ih b k
theorem TAll.take {im : List (Addr × Obj)} {vs : List Value} {ds : List Dat} (h : TAll im vs ds) (k : Nat) : TAll im (vs.take k) (ds.take k) := by
  induction vs generalizing ds k with
  | nil => cases h; simp; exact .nil
  | cons v vs ih =>
    cases h with
    | cons a b =>
      cases k with
      | zero => exact .nil
      | succ k => exact .cons a (ih b k)
theorem TAll.set {im : List (Addr × Obj)} {vs : List Value} {ds : List Dat} {v : Value} {d : Dat} (h : TAll im vs ds) (hv : TIn im v d) (k : Nat) : TAll im (vs.set k v) (ds.set k d) := by
  induction vs generalizing ds k with
  | nil => cases h; exact .nil
  | cons w vs ih =>
    cases h with
    | cons a b =>
      cases k with
      | zero => exact .cons hv b
      | succ k => exact .cons a (ih b k)
theorem adj_clip (lo hi : Option Int) (n : Nat) : Builtin.Slice.sliceAdjust lo hi 1 (n : Int) = (((clip n 0 lo : Nat) : Int), ((clip n n hi : Nat) : Int)) := by
  unfold Builtin.Slice.sliceAdjust clip
  have h2 : ¬ ((1 : Int) < 0) := by lia -abstractProof
  simp only [h2, if_false]
  refine Prod.ext ?_ ?_
  · cases lo with
    | none => rfl
    | some i => show (if i < 0 then max (i + n) 0 else min i n) = ((if i < 0 then (i + n).toNat else min i.toNat n : Nat) : Int); split <;> lia -abstractProof
  · cases hi with
    | none => rfl
    | some i => show (if i < 0 then max (i + n) 0 else min i n) = ((if i < 0 then (i + n).toNat else min i.toNat n : Nat) : Int); split <;> lia -abstractProof
theorem clip_le (n d : Nat) (h : d ≤ n) (o : Option Int) : clip n d o ≤ n := by
  unfold clip
  cases o with
  | none => exact h
  | some i => show (if i < 0 then (i + n).toNat else min i.toNat n) ≤ n; split <;> lia -abstractProof
theorem mulT_of {n : Int} {a : Dat} {l : List Dat} (h : mulT n a = some l) : (n = 0 ∧ l = []) ∨ (n = 1 ∧ l = [a]) ∨ (n = 2 ∧ l = [a, a]) ∨ (n = 3 ∧ l = [a, a, a]) := by
  unfold mulT at h
  cases e0 : n == 0 with
  | true => rw [e0] at h; cases h; exact .inl ⟨beq_iff_eq.mp e0, rfl⟩
  | false =>
  cases e1 : n == 1 with
  | true => rw [e0, e1] at h; cases h; exact .inr (.inl ⟨beq_iff_eq.mp e1, rfl⟩)
  | false =>
  cases e2 : n == 2 with
  | true => rw [e0, e1, e2] at h; cases h; exact .inr (.inr (.inl ⟨beq_iff_eq.mp e2, rfl⟩))
  | false =>
  cases e3 : n == 3 with
  | true => rw [e0, e1, e2, e3] at h; cases h; exact .inr (.inr (.inr ⟨beq_iff_eq.mp e3, rfl⟩))
  | false => rw [e0, e1, e2, e3] at h; cases h
theorem oneX_of {l : List Dat} {a : Dat} (h : oneX l = some a) : l = [a] := by
  cases l with
  | nil => cases h
  | cons b r => cases r with
    | nil => cases h; rfl
    | cons _ _ => cases h
theorem tsub_one {R : List (Addr × Obj)} {p : Addr × Obj} : TSub R (p :: R) := fun _ hp _ => .tail _ hp
theorem cond_b {b : Bool} {A : Prop} (h : cond b A False) : b = true := by
  cases b
  · exact h.elim
  · rfl
theorem cond_p {b : Bool} {A : Prop} (h : cond b A False) : A := by
  cases b
  · exact h.elim
  · exact h
theorem and_l {a b : Bool} (h : (a && b) = true) : a = true := (Bool.and_eq_true_iff.mp h).1
theorem and_r {a b : Bool} (h : (a && b) = true) : b = true := (Bool.and_eq_true_iff.mp h).2
theorem cond_t {b : Bool} {A : Prop} (h : cond b A False) : b = true ∧ A := by
  cases b with
  | true => exact ⟨rfl, h⟩
  | false => exact h.elim
theorem if_of {b : Bool} {A B : Prop} (h : cond b A B) : A ∨ B := by cases b; exact .inr h; exact .inl h
theorem optX_some {α : Type} {o : Option α} {k : α → Prop} (h : optX o k) : ∃ a, o = some a ∧ k a := by
  cases o with
  | none => exact h.elim
  | some a => exact ⟨a, rfl, h⟩
section
variable {x y : XV}
theorem asD_eq {d : Dat} (h : asD x = some d) : x = .d d := by
  cases x <;> cases h; rfl
theorem asI_eq {i : Int} (h : asI x = some i) : x = .d (.int i) := by
  cases x with
  | d y => cases y <;> cases h; rfl
  | _ => cases h
theorem asS_eq {i : Str} (h : asS x = some i) : x = .d (.str i) := by
  cases x with
  | d y => cases y <;> cases h; rfl
  | _ => cases h
theorem asB_eq {i : Bool} (h : asB x = some i) : x = .d (.bool i) := by
  cases x with
  | d y => cases y <;> cases h; rfl
  | _ => cases h
theorem asT_eq {i : List Dat} (h : asT x = some i) : x = .d (.tuple i) := by
  cases x with
  | d y => cases y <;> cases h; rfl
  | _ => cases h
theorem asO_eq {k : Nat} (h : asO x = some k) : x = .o k := by
  cases x <;> cases h; rfl
theorem asG_eq {v : Value} (h : asG x = some v) : x = .g v := by
  cases x <;> cases h; rfl
theorem oneL_eq {xs : List XV} (h : oneL xs = some x) : xs = [x] := by
  cases xs with
  | nil => cases h
  | cons b r => cases r with
    | nil => cases h; rfl
    | cons _ _ => cases h
theorem twoL_eq {xs : List XV} {p : XV × XV} (h : twoL xs = some p) : xs = [p.1, p.2] := by
  cases xs with
  | nil => cases h
  | cons b r => cases r with
    | nil => cases h
    | cons d r => cases r with
      | nil => cases h; rfl
      | cons _ _ => cases h
theorem lstA_eq {o : Option MO} {ds : List Dat} (h : lstA o = some ds) : o = some (.lst ds) := by
  cases o with
  | none => cases h
  | some m => cases m <;> cases h; rfl
theorem instA_eq {o : Option MO} {p : Addr × List (Str × XV)} (h : instA o = some p) : o = some (.inst p.1 p.2) := by
  cases o with
  | none => cases h
  | some m => cases m <;> cases h; rfl
end
section
variable {ad : List Addr} {R : List (Addr × Obj)} {u v : Value} {x y : XV}
theorem asI_of {P : Int → Prop} (h : optX (asI x) P) (D : Den ad R u x) : ∃ i t, u = .int i t ∧ P i := by
  obtain ⟨i, e, h⟩ := optX_some h
  obtain rfl := asI_eq e
  obtain ⟨t, rfl⟩ := den_int D
  exact ⟨i, t, rfl, h⟩
theorem asS_of {P : Str → Prop} (h : optX (asS x) P) (D : Den ad R u x) : ∃ i t, u = .str i t ∧ P i := by
  obtain ⟨i, e, h⟩ := optX_some h
  obtain rfl := asS_eq e
  obtain ⟨t, rfl⟩ := den_str D
  exact ⟨i, t, rfl, h⟩
theorem asB_of {P : Bool → Prop} (h : optX (asB x) P) (D : Den ad R u x) : ∃ b, u = .bool b ∧ P b := by
  obtain ⟨i, e, h⟩ := optX_some h
  obtain rfl := asB_eq e
  exact ⟨i, den_bool D, h⟩
theorem asT_of {P : List Dat → Prop} (h : optX (asT x) P) (D : Den ad R u x) : ∃ ds a vs n, u = .ref a ∧ (a, tupO vs n) ∈ R ∧ TAll R vs ds ∧ P ds := by
  obtain ⟨i, e, h⟩ := optX_some h
  obtain rfl := asT_eq e
  obtain ⟨a, vs, n, e, hm, k⟩ := den_tup D
  exact ⟨i, a, vs, n, e, hm, k, h⟩
theorem asD_of {P : Dat → Prop} (h : optX (asD x) P) (D : Den ad R u x) : ∃ d, TIn R u d ∧ P d := by
  obtain ⟨i, e, h⟩ := optX_some h
  obtain rfl := asD_eq e
  cases D with
  | d k => exact ⟨i, k, h⟩
theorem oneL_of {vs : List Value} {xs : List XV} {P : XV → Prop} (h : optX (oneL xs) P) (D : DenL ad R vs xs) : ∃ x v, vs = [v] ∧ Den ad R v x ∧ P x := by
  obtain ⟨x, e, h⟩ := optX_some h
  obtain rfl := oneL_eq e
  obtain ⟨v, e, D⟩ := denL_one D
  exact ⟨x, v, e, D, h⟩
theorem twoL_of {vs : List Value} {xs : List XV} {P : XV × XV → Prop} (h : optX (twoL xs) P) (D : DenL ad R vs xs) : ∃ p v u, vs = [v, u] ∧ Den ad R v p.1 ∧ Den ad R u p.2 ∧ P p := by
  obtain ⟨p, e, h⟩ := optX_some h
  obtain rfl := twoL_eq e
  obtain ⟨v, u, e, D1, D2⟩ := denL_two D
  exact ⟨p, v, u, e, D1, D2, h⟩
theorem den_no (h : isNo x = true) (D : Den ad R u x) : u = .none := by
  cases x with
  | d y => cases y <;> first | exact den_none D | cases h
  | _ => cases h
theorem den_noX {b : Bool} (h : noX x = some b) (D : Den ad R u x) : (b = true ∧ u = .none) ∨ (b = false ∧ ((∃ i t, u = .int i t) ∨ ∃ a, u = .ref a)) := by
  cases x with
  | d y => cases y with
    | none => cases h; exact .inl ⟨rfl, den_none D⟩
    | int i => cases h; obtain ⟨t, rfl⟩ := den_int D; exact .inr ⟨rfl, .inl ⟨_, _, rfl⟩⟩
    | tuple l => cases h; obtain ⟨a, _, _, rfl, _⟩ := den_tup D; exact .inr ⟨rfl, .inr ⟨_, rfl⟩⟩
    | _ => cases h
  | t xs => cases h; cases D; exact .inr ⟨rfl, .inr ⟨_, rfl⟩⟩
  | _ => cases h
theorem two_int {P : Int → Int → Prop} (h : optX (asI x) fun a => optX (asI y) fun b => P a b) (D1 : Den ad R u x) (D2 : Den ad R v y) : ∃ a b t1 t2, u = .int a t1 ∧ v = .int b t2 ∧ P a b := by
  obtain ⟨a, t1, e1, h⟩ := asI_of h D1
  obtain ⟨b, t2, e2, h⟩ := asI_of h D2
  exact ⟨a, b, t1, t2, e1, e2, h⟩
end
section
variable {prog : Program} {w : World} {A : Around} {E : Value → Shared → Prop} {s : Shared} {F : Fm} {T : Sg} {l : List (Str × XV)} {ob : List MO} {u v : Value} {x y : XV} {Q : Value → Shared → Prop}
structure OnL (F : Fm) (T : Sg) (ob : List MO) (k : Nat) (ds : List Dat) (a : Addr) (vs : List Value) (n : Nat) : Prop where
  mem : (a, listOf vs.toArray n) ∈ T.O
  all : TAll T.R vs ds
  put : ∀ vs' ds' n', TAll T.R vs' ds' → ∃ O', Upd a (listOf vs.toArray n) (listOf vs'.toArray n') T.O O' ∧ Rows F.w.params T.ad T.R (ob.set k (.lst ds')) T.ad O'
theorem onL_of {K : Nat → List Dat → Prop} (h : onL x ob K) (V : VR F T l ob) (D : Den T.ad T.R u x) : ∃ k ds a vs n, x = .o k ∧ u = .ref a ∧ ob[k]? = some (.lst ds) ∧ T.ad[k]? = some a ∧ OnL F T ob k ds a vs n ∧ K k ds := by
  obtain ⟨k, e, h0⟩ := optX_some h
  obtain ⟨ds, e3, h00⟩ := optX_some h0
  obtain rfl := asO_eq e
  obtain ⟨a, rfl, ha⟩ := den_o D
  obtain ⟨a', vs, n, e2, h1, h2, h3⟩ := rows_lst V.rows (lstA_eq e3) V.nd
  obtain rfl : a = a' := Option.some.inj (ha.symm.trans e2)
  exact ⟨k, ds, a, vs, n, rfl, rfl, lstA_eq e3, ha, ⟨h1, h2, h3⟩, h00⟩
structure OnI (F : Fm) (T : Sg) (ob : List MO) (k : Nat) (C : Addr) (fs : List (Str × XV)) (a dx : Addr) (es : List DictEntry) : Prop where
  mem : (a, instObj C dx) ∈ T.O
  dct : (dx, dictOf es fs.length) ∈ T.O
  ents : Ents F.w.params T.ad T.R es fs
  put : ∀ es' fs', Ents F.w.params T.ad T.R es' fs' → ∃ O', Upd dx (dictOf es fs.length) (dictOf es' fs'.length) T.O O' ∧ Rows F.w.params T.ad T.R (ob.set k (.inst C fs')) T.ad O'
theorem onI_of {K : Nat → Addr → List (Str × XV) → Prop} (h : onI x ob K) (V : VR F T l ob) (D : Den T.ad T.R u x) : ∃ k C fs a dx es, u = .ref a ∧ OnI F T ob k C fs a dx es ∧ K k C fs := by
  obtain ⟨k, e, h0⟩ := optX_some h
  obtain ⟨⟨C, fs⟩, e3, h00⟩ := optX_some h0
  obtain rfl := asO_eq e
  obtain ⟨a, rfl, ha⟩ := den_o D
  obtain ⟨a', dx, es, e2, h1, h2, h3, h4⟩ := rows_inst V.rows (instA_eq e3) V.nd
  obtain rfl : a = a' := Option.some.inj (ha.symm.trans e2)
  exact ⟨k, C, fs, a, dx, es, rfl, ⟨h1, h2, h3, h4⟩, h00⟩
structure OnC (F : Fm) (T : Sg) (ob : List MO) (k : Nat) (y : XV) (a : Addr) (o : Obj) (u : Value) : Prop where
  mem : (a, o) ∈ T.O
  dat : o.data = .cell (some u)
  den : Den T.ad T.R u y
structure OnK (F : Fm) (T : Sg) (ob : List MO) (k : Nat) (a : Addr) (o : Obj) : Prop where
  mem : (a, o) ∈ T.O
  dat : ∃ u, o.data = .cell u
  put : ∀ o' u' y', o'.data = .cell (some u') → Den T.ad T.R u' y' → ∃ O', Upd a o o' T.O O' ∧ Rows F.w.params T.ad T.R (ob.set k (.cell (some y'))) T.ad O'
theorem cellA_eq {o : Option MO} {y : XV} (h : cellA o = some y) : o = some (.cell (some y)) := by
  cases o with
  | none => cases h
  | some m =>
    cases m with
    | cell x => exact congrArg (fun x => some (MO.cell x)) h
    | _ => cases h
theorem isCO_eq {o : Option MO} (h : isCO o = true) : ∃ x, o = some (.cell x) := by
  cases o with
  | none => cases h
  | some m =>
    cases m with
    | cell x => exact ⟨x, rfl⟩
    | _ => cases h
theorem lsxA_eq {o : Option MO} {y : List XV} (h : lsxA o = some y) : o = some (.lsx y) := by
  cases o with
  | none => cases h
  | some m => cases m <;> cases h; rfl
theorem onC_of {x : Str} {K : Nat → XV → Prop} (hx : isCell (F.c.names.lookup x) = true) (h : onC x l ob K) (V : VR F T l ob) : ∃ k y a o u, l.lookup x = some (.o k) ∧ F.env.cells.lookup x = some a ∧ T.ad[k]? = some a ∧ OnC F T ob k y a o u ∧ K k y := by
  obtain ⟨v, hl, h⟩ := optX_some h
  obtain ⟨k, hk, h⟩ := optX_some h
  obtain ⟨y, hy, h9⟩ := optX_some h
  obtain rfl := asO_eq hk
  obtain ⟨u, h1, h2, _⟩ := V.loc _ _ hl
  obtain ⟨a, h3, rfl⟩ := (Rd.cellAt hx).mp h1
  obtain ⟨a', e, ha⟩ := den_o h2
  cases e
  obtain ⟨a', o, u', e2, k1, k2, k3, _⟩ := rows_cell V.rows (cellA_eq hy) V.nd
  obtain rfl : a = a' := Option.some.inj (ha.symm.trans e2)
  cases k3 with
  | is k3 => exact ⟨k, y, a, o, _, hl, h3, ha, ⟨k1, k2, k3⟩, h9⟩
theorem onK_of {x : Str} {K : Nat → Prop} (hx : isCell (F.c.names.lookup x) = true) (h : onK x l ob K) (V : VR F T l ob) : ∃ k a o, l.lookup x = some (.o k) ∧ F.env.cells.lookup x = some a ∧ T.ad[k]? = some a ∧ OnK F T ob k a o ∧ K k := by
  obtain ⟨v, hl, h⟩ := optX_some h
  obtain ⟨k, hk, h⟩ := optX_some h
  have hy := cond_b h
  have h9 := cond_p h
  obtain ⟨y, hy⟩ := isCO_eq hy
  obtain rfl := asO_eq hk
  obtain ⟨u, h1, h2, _⟩ := V.loc _ _ hl
  obtain ⟨a, h3, rfl⟩ := (Rd.cellAt hx).mp h1
  obtain ⟨a', e, ha⟩ := den_o h2
  cases e
  obtain ⟨a', o, u', e2, k1, k2, _, k4⟩ := rows_cell V.rows hy V.nd
  obtain rfl : a = a' := Option.some.inj (ha.symm.trans e2)
  exact ⟨k, a, o, hl, h3, ha, ⟨k1, ⟨_, k2⟩, fun o' u' y' hd D => k4 o' _ _ hd (.is D)⟩, h9⟩
theorem eq_ts {a : Addr} {n : Nat} {vs : List Value} {b : Str} {t : Tok} {h₀ : Heap} {L : Addr} {news : List (Addr × Obj)} (N : News h₀ L s.heap news) (hm : (a, tupO vs n) ∈ news) (hu : A.units < cLine) (h : Q (.bool false) s) : wpAny (model prog w) A (compareOp .Eq (.ref a) (.str b t)) Q E s :=
  PySem.SeqAt.RcAt.tuple_str b t ⟨_, (N _ hm).1, rfl, n, rfl⟩ hu prog w E Q h
theorem tall_dat {nw : List (Addr × Obj)} {vs : List Value} {ds : List Dat} (h : TAll nw vs ds) : DatAll nw vs ds :=
  h.rec (motive_1 := fun v d _ => DatIn nw v d) (motive_2 := fun vs ds _ => DatAll nw vs ds) .none (fun b => .bool b) (fun i t => .int i t) (fun x t => .str x t) (fun h _ r => .tuple h r) .nil fun _ _ h r => .cons h r
theorem tin_dat {nw : List (Addr × Obj)} {v : Value} {d : Dat} (h : TIn nw v d) : DatIn nw v d := by
  cases tall_dat (.cons h .nil) with
  | cons h _ => exact h
theorem datE_ok (V : VR F T l ob) {d : Dat} (D : Den T.ad T.R u x) (e : datE ob x = some d) : DatIn (T.O ++ T.R) u d := by
  cases D with
  | d h => cases e; exact tin_dat (h.mono tsub_right)
  | o h =>
    obtain ⟨ds, e3, rfl⟩ := Option.map_eq_some_iff.mp (show Option.map _ _ = _ from e)
    obtain ⟨a, vs, n, e2, h1, h2, _⟩ := rows_lst V.rows (lstA_eq e3) V.nd
    obtain rfl := Option.some.inj (h.symm.trans e2)
    exact .list (V.memO h1) (tall_dat (h2.mono tsub_right))
  | _ => cases e
theorem datX_ok (V : VR F T l ob) {d : Dat} (D : Den T.ad T.R u x) (e : datX ob x = some d) : DatIn (T.O ++ T.R) u d := by
  cases D with
  | t hm hl =>
    obtain ⟨ds, e3, rfl⟩ := Option.map_eq_some_iff.mp (show Option.map _ _ = _ from e)
    refine .tuple (V.mem hm) ?_
    exact hl.ind (p := fun vs xs => ∀ ds, datL ob xs = some ds → DatAll (T.O ++ T.R) vs ds) (fun ds e => by cases e; exact .nil) (fun v vs x xs d r ds e => by
      obtain ⟨d0, e0, e⟩ := Option.bind_eq_some_iff.mp (show Option.bind _ _ = _ from e)
      obtain ⟨ds0, e1, rfl⟩ := Option.map_eq_some_iff.mp e
      exact .cons (datE_ok V d e0) (r _ e1)) ds e3
  | d h => exact datE_ok V (.d h) e
  | o h => exact datE_ok V (.o h) e
  | g v => cases e
theorem dat_shaped {d : Dat} (hd : kqdOk 8 d = true) : SeqAt.shaped (kqdP d) = true := by
  have l := kqd_lay 8 d hd
  unfold SeqAt.shaped; rw [l.1, Bool.true_and]; exact decide_eq_true (Nat.le_trans l.2 (by decide))
noncomputable def isIntV (i : Int) : Value → Bool
  | .int j _ => j == i
  | _ => false
theorem ints_any {R : List (Addr × Obj)} {ds : List Dat} {i : Int} : ∀ {vs : List Value} {is : List Int}, TAll R vs ds → intsA ds = some is → (∀ v ∈ vs, ∃ j t, v = .int j t) ∧ vs.any (isIntV i) = is.contains i := by
  induction ds with
  | nil => intro vs is h e; cases e; obtain rfl := dat_nil h; exact ⟨(fun _ h => nomatch h), rfl⟩
  | cons d ds ih =>
    intro vs is h e
    obtain ⟨v, ws, rfl, h1, h2⟩ := dat_cons h
    cases d with
    | int j =>
      obtain ⟨is', e', rfl⟩ := Option.map_eq_some_iff.mp (show Option.map _ (intsA ds) = _ from e)
      obtain ⟨t, rfl⟩ := dat_int h1
      obtain ⟨k1, k2⟩ := ih h2 e'
      refine ⟨fun v hv => (List.mem_cons.mp hv).elim (fun e => ⟨j, t, e⟩) (k1 v), ?_⟩
      rw [List.any_cons, k2, List.contains_cons]
      show ((j == i) || _) = ((i == j) || _)
      rw [Bool.beq_comm]
    | _ => cases e
theorem notin_ints {h₀ : Heap} {L a : Addr} {vs : List Value} {n : Nat} {R nw : List (Addr × Obj)} {ds : List Dat} {is : List Int} {i : Int} {t : Tok} (N : News h₀ L s.heap nw) (hm : (a, listOf vs.toArray n) ∈ nw) (h : TAll R vs ds) (e : intsA ds = some is) (hq : Q (.bool (!(is.contains i))) s) : wpAny (model prog w) A (compareOp .NotIn (.int i t) (.ref a)) Q E s := by
  obtain ⟨k1, k2⟩ := ints_any (i := i) h e
  refine PySem.SeqAt.notIn_listAt (items := vs.toArray) (isIntV i) ⟨_, (N _ hm).1, rfl, n, rfl⟩ (fun y hy => ?_) ?_
  · obtain ⟨j, t', rfl⟩ := k1 y (by simpa using hy)
    exact PySem.SeqAt.EqAt.int_int _ _ _ _
  · rw [show vs.toArray.any (isIntV i) = vs.any (isIntV i) by simp, k2]; exact hq
theorem cmpX_ok {big : Bool} {op : CmpOp} {P : Bool → Prop} (hw : cmpX big op x y ob P) (V : VR F T l ob) (hu : A.units < cLine) (hb : big = true → A.units + 64 < cLine) (D1 : Den T.ad T.R u x) (D2 : Den T.ad T.R v y) (K : ∀ b tk, P b → Q (.bool b) ((T.tok tk).sh s)) : wpAny (model prog w) A (compareOp op u v) Q E (T.sh s) := by
  cases op with
  | Eq =>
    rcases if_of hw with hw | hw
    · obtain ⟨_, _, _, _, rfl, rfl, hw⟩ := two_int hw D1 D2; exact eq_int (K _ _ hw)
    rcases if_of hw with hw | hw
    · have hbig := cond_b hw
      have hw := cond_p hw
      obtain ⟨a, ea, hw⟩ := optX_some hw
      obtain ⟨b, eb, ⟨h1, h2⟩, hw⟩ := optX_some hw
      obtain ⟨as, ra⟩ := kqd_in V.N 8 (datX_ok V D1 ea) h1
      obtain ⟨bs, rb⟩ := kqd_in V.N 8 (datX_ok V D2 eb) h2
      exact eq_dataH ra rb (dat_shaped h1) (dat_shaped h2) (hb hbig) (K _ T.tk (hw _ (kqd_eqv 8 a b 8 h1 h2)))
    · obtain ⟨_, _, rfl, hw⟩ := asS_of hw D2
      cases hb : (asT x).isSome with
      | true =>
        rw [hb] at hw
        obtain ⟨ds, e⟩ := Option.isSome_iff_exists.mp hb
        obtain rfl := asT_eq e
        obtain ⟨a, vs, n, rfl, hm, _⟩ := den_tup D1
        exact eq_ts V.N (V.mem hm) hu (K _ _ hw)
      | false =>
        rw [hb] at hw
        obtain ⟨_, _, rfl, hw⟩ := asS_of (show optX _ _ from hw) D1
        exact eq_str (K _ _ hw)
  | NotEq =>
    rcases if_of hw with hw | hw
    · obtain ⟨_, _, _, _, rfl, rfl, hw⟩ := two_int hw D1 D2; exact ne_int (K _ _ hw)
    rcases if_of hw with hw | hw
    · obtain ⟨_, rfl, hw⟩ := asB_of hw D1
      obtain ⟨_, rfl, hw⟩ := asB_of hw D2
      exact ne_bool (K _ _ hw)
    rcases if_of hw with hw | hw
    · obtain ⟨_, _, rfl, hw⟩ := asS_of hw D1
      obtain ⟨_, _, rfl, hw⟩ := asS_of hw D2
      exact ne_str (K _ _ hw)
    · have hbig := cond_b hw
      have hw := cond_p hw
      obtain ⟨a, ea, hw⟩ := optX_some hw
      obtain ⟨b, eb, ⟨h1, h2⟩, hw⟩ := optX_some hw
      obtain ⟨as, ra⟩ := kqd_in V.N 8 (datX_ok V D1 ea) h1
      obtain ⟨bs, rb⟩ := kqd_in V.N 8 (datX_ok V D2 eb) h2
      refine ne_dataH ra rb (dat_shaped h1) (dat_shaped h2) (hb hbig) (K _ T.tk (hw _ ?_))
      have e := kqd_eqv 8 a b 8 h1 h2
      cases hb : PyData.eqv (kqdP a) (kqdP b) with
      | true => exact ⟨(fun h => nomatch h), fun h => (h (e.mp hb)).elim⟩
      | false => exact ⟨(fun _ h => by rw [e.mpr h] at hb; cases hb), fun _ => rfl⟩
  | Lt => obtain ⟨_, _, _, _, rfl, rfl, hw⟩ := two_int hw D1 D2; exact lt_int (K _ _ hw)
  | LtE => obtain ⟨_, _, _, _, rfl, rfl, hw⟩ := two_int hw D1 D2; exact le_int (K _ _ hw)
  | Gt => obtain ⟨_, _, _, _, rfl, rfl, hw⟩ := two_int hw D1 D2; exact gt_int (K _ _ hw)
  | GtE => obtain ⟨_, _, _, _, rfl, rfl, hw⟩ := two_int hw D1 D2; exact ge_int (K _ _ hw)
  | Is =>
    have hn := cond_b hw
    have hw := cond_p hw
    obtain rfl := den_no hn D2
    obtain ⟨b, hb, hw⟩ := optX_some hw
    rcases den_noX hb D1 with ⟨rfl, rfl⟩ | ⟨rfl, ⟨_, _, rfl⟩ | ⟨_, rfl⟩⟩
    · exact is_none_none (K _ _ hw)
    · exact is_int_none (K _ _ hw)
    · exact is_ref_none (K _ _ hw)
  | IsNot =>
    have hn := cond_b hw
    have hw := cond_p hw
    obtain rfl := den_no hn D2
    obtain ⟨b, hb, hw⟩ := optX_some hw
    rcases den_noX hb D1 with ⟨rfl, rfl⟩ | ⟨rfl, ⟨_, _, rfl⟩ | ⟨_, rfl⟩⟩
    · exact isnot_none_none (K _ _ hw)
    · exact isnot_int_none (K _ _ hw)
    · exact isnot_ref_none (K _ _ hw)
  | In =>
    obtain ⟨_, _, rfl, hw⟩ := asS_of (show optX _ _ from hw) D1
    obtain ⟨_, _, rfl, hw⟩ := asS_of hw D2
    exact in_str (K _ _ hw)
  | NotIn =>
    obtain ⟨i, _, rfl, hw⟩ := asI_of (show optX _ _ from hw) D1
    obtain ⟨k, e1, hw⟩ := optX_some hw
    obtain ⟨ds, e2, hw⟩ := optX_some hw
    obtain ⟨is, e3, hw9⟩ := optX_some hw
    obtain ⟨_, _, a, vs, n, _, rfl, _, _, H, hk⟩ := onL_of (K := fun _ ds' => ds' = ds) (show optX (asO y) _ by rw [e1]; show optX (lstA ob[k]?) _; rw [e2]; rfl) V D2
    subst hk
    exact notin_ints V.N (V.memO H.mem) H.all e3 (K _ _ hw9)
theorem truthX_ok {M : Model} {P : Bool → Prop} {Q : Bool → Shared → Prop} (hw : truthX x P) (D : Den T.ad T.R u x) (K : ∀ b, P b → Q b (T.sh s)) : wpAny M A (truthy u) Q E (T.sh s) := by
  obtain ⟨_, rfl, hw⟩ := asB_of (show optX _ _ from hw) D
  exact wpAny_truthy_bool (K _ hw)
theorem unX_ok {op : UnaryOp} {P : XV → Prop} (hw : unX op x P) (D : Den T.ad T.R u x)
    (K : ∀ tk r z, P z → Den T.ad T.R r z → Q r ((T.tok tk).sh s)) : wpAny (model prog w) A (unaryOp op u) Q E (T.sh s) := by
  cases op with
  | USub => obtain ⟨_, _, rfl, hw⟩ := asI_of (show optX _ _ from hw) D; exact neg_int (K _ _ _ hw (.d (.int _ _)))
  | Not => obtain ⟨_, rfl, hw⟩ := asB_of (show optX _ _ from hw) D; exact not_of (wpAny_truthy_bool (K T.tk _ _ hw (.d (.bool _))))
  | _ => exact (show False from hw).elim
theorem iopX_ok {op : Operator} {P : XV → Prop} (hw : iopX op x y P) (D1 : Den T.ad T.R u x) (D2 : Den T.ad T.R v y) (K : ∀ tk r z, P z → Den T.ad T.R r z → Q r ((T.tok tk).sh s)) : wpAny (model prog w) A (inplaceOp op u v) Q E (T.sh s) := by
  cases op with
  | Add => obtain ⟨_, _, _, _, rfl, rfl, hw⟩ := two_int (show optX _ _ from hw) D1 D2; exact iadd_int (K _ _ _ hw (.d (.int _ _)))
  | Sub => obtain ⟨_, _, _, _, rfl, rfl, hw⟩ := two_int (show optX _ _ from hw) D1 D2; exact isub_int (K _ _ _ hw (.d (.int _ _)))
  | _ => exact (show False from hw).elim
theorem binX_ok {op : Operator} {P : XV → Prop} (hw : binX op x y P) (V : VR F T l ob) (D1 : Den T.ad T.R u x) (D2 : Den T.ad T.R v y)
    (K : ∀ T' r z, P z → VR F T' l ob → Gr F true T T' → Den T'.ad T'.R r z → Q r (T'.sh s)) : wpAny (model prog w) A (binaryOp op u v) Q E (T.sh s) := by
  have ki : ∀ {tk i t}, P (.d (.int i)) → Q (.int i t) ((T.tok tk).sh s) := fun hw => K (T.tok _) _ _ hw V.tok .refl (.d (.int _ _))
  have ks : ∀ {tk i t}, P (.d (.str i)) → Q (.str i t) ((T.tok tk).sh s) := fun hw => K (T.tok _) _ _ hw V.tok .refl (.d (.str _ _))
  have kt : ∀ {h' D n vs ds}, Fr F.h₀ F.L h' T.m → News F.h₀ F.L h' ((D, tupO vs n) :: (T.O ++ T.R)) → TAll T.R vs ds → P (.d (.tuple ds)) → Q (.ref D) ((⟨h', T.tk, T.m, T.ad, T.O, (D, tupO vs n) :: T.R⟩ : Sg).sh s) := fun F' N' h hw =>
    K ⟨_, T.tk, T.m, T.ad, T.O, _⟩ _ _ hw (V.tup F' N') grow_tup (.d (.tuple (.head _) (h.mono tsub_one)))
  cases op with
  | Add =>
    rcases if_of hw with hw | hw
    · obtain ⟨_, _, _, _, rfl, rfl, hw⟩ := two_int hw D1 D2; exact add_int (ki hw)
    rcases if_of hw with hw | hw
    · obtain ⟨a0, a, vs, n1, rfl, ha, h1, hw⟩ := asT_of hw D1
      obtain ⟨b0, b, ws, n2, rfl, hb, h2, hz, hw⟩ := asT_of hw D2
      refine add_tup V.fr V.N (V.mem ha) (V.mem hb) (fun D n h' ext F' N' hD hT => ?_) (by rw [h1.length, h2.length, sizeLine_eq]; lia -abstractProof)
      refine K ⟨h', T.tk, T.m, T.ad, T.O, ext ++ T.R⟩ _ _ hw (V.ext F' N' (fun _ hp => mem_mid hp) hT) ⟨fun _ _ h _ => h, ext, hT, rfl⟩ (.d (.tuple (vs := vs ++ ws) (n := n) ?_ ((h1.mono tsub_right).append (h2.mono tsub_right))))
      exact (List.mem_append.mp hD).elim mem_l fun hD => (List.mem_append.mp hD).elim (fun hD => (rows_cls V.rows _ hD _ _ rfl).elim) mem_r
    · obtain ⟨_, _, rfl, hw⟩ := asS_of hw D1
      obtain ⟨_, _, rfl, hz, hw⟩ := asS_of hw D2
      exact PyProof.Rows.add_str (fun t' tk => ks hw) (by rw [sizeLine_eq]; lia -abstractProof)
  | Sub => obtain ⟨_, _, _, _, rfl, rfl, hw⟩ := two_int (show optX _ _ from hw) D1 D2; exact sub_int (ki hw)
  | FloorDiv => 
    obtain ⟨_, _, _, _, rfl, rfl, hw⟩ := two_int (show optX _ _ from hw) D1 D2
    have h0 := cond_b hw
    have hw := cond_p hw
    have h1 := and_l h0
    have h2 := and_r h0
    exact PyProof.Rows.floordiv_int (bne_iff_ne.mp h1) (ki hw) (.inl (PyProof.noPylong_small (Nat.lt_of_le_of_lt (Nat.le_of_ble_eq_true h2) (Nat.le_of_ble_eq_true rfl))))
  | Mod => 
    obtain ⟨_, _, _, _, rfl, rfl, hw⟩ := two_int (show optX _ _ from hw) D1 D2
    have h0 := cond_b hw
    have hw := cond_p hw
    exact PyProof.Rows.mod_int (bne_iff_ne.mp h0) (ki hw)
  | Mult =>
    rcases if_of hw with hw | hw
    · obtain ⟨_, _, _, _, rfl, rfl, ⟨h1, h2⟩, hw⟩ := two_int hw D1 D2
      exact mul_int (ki hw)
    · obtain ⟨l0, a, vs, n1, rfl, ha, h1, hw⟩ := asT_of hw D1
      obtain ⟨a0, e0, hw⟩ := optX_some hw
      obtain rfl := oneX_of e0
      obtain ⟨n0, _, rfl, hw⟩ := asI_of hw D2
      obtain ⟨r0, e1, hw⟩ := optX_some hw
      obtain ⟨v1, rs1, rfl, hv1, q1⟩ := dat_cons h1
      obtain rfl := dat_nil q1
      rcases mulT_of e1 with ⟨rfl, rfl⟩ | ⟨rfl, rfl⟩ | ⟨rfl, rfl⟩ | ⟨rfl, rfl⟩
      · exact mul_t0 V.fr V.N (V.mem ha) fun D h' F' N' _ => kt F' N' .nil hw
      · exact mul_t1 V.N (V.mem ha) (K T _ _ hw V .refl (.d (.tuple ha (.cons hv1 .nil))))
      · exact mul_t2 V.fr V.N (V.mem ha) fun D h' F' N' _ => kt F' N' (.cons hv1 (.cons hv1 .nil)) hw
      · exact mul_t3 V.fr V.N (V.mem ha) fun D h' F' N' _ => kt F' N' (.cons hv1 (.cons hv1 (.cons hv1 .nil))) hw
  | _ => exact (show False from hw).elim
theorem mulLX_ok {P : XV → List MO → Prop} (hw : mulLX x y ob P) (V : VR F T l ob) (D1 : Den T.ad T.R u x) (D2 : Den T.ad T.R v y)
    (K : ∀ T' r z ob', P z ob' → VR F T' l ob' → Gr F true T T' → Den T'.ad T'.R r z → Q r (T'.sh s)) : wpAny (model prog w) A (binaryOp .Mult u v) Q E (T.sh s) := by
  obtain ⟨n, t, rfl, hw⟩ := asI_of hw D2
  obtain ⟨k, e1, hw⟩ := optX_some hw
  obtain ⟨ds, e2, hw⟩ := optX_some hw
  obtain ⟨a0, e3, ⟨h1, h2⟩, hw9⟩ := optX_some hw
  obtain ⟨_, _, a, vs, m, _, rfl, _, _, H, hk⟩ := onL_of (K := fun _ ds' => ds' = ds) (show optX (asO x) _ by rw [e1]; show optX (lstA ob[k]?) _; rw [e2]; rfl) V D1
  subst hk
  obtain rfl := oneX_of e3
  obtain ⟨v1, rs1, rfl, hv1, q1⟩ := dat_cons H.all
  obtain rfl := dat_nil q1
  have hlt : ∀ p ∈ T.O ++ T.R, p.1 < T.h.objs.size := fun p hp => Heap.lt_size (V.N p hp).1
  refine mul_list (s := T.sh s) V.fr V.N (V.N _ (V.memO H.mem)).1 (by lia -abstractProof) (by lia -abstractProof) (by show 1 * n.toNat ≤ _; lia -abstractProof) fun h' F' N' => ?_
  have ea : List.foldl (fun x1 x2 => x1 ++ x2) #[] (List.replicate (if (#[v1] : Array Value).isEmpty = true then 0 else n.toNat) #[v1]) = (List.replicate n.toNat v1).toArray := by
    show List.foldl _ _ (List.replicate n.toNat #[v1]) = _
    have g : ∀ (k : Nat) (acc : List Value), List.foldl (fun x1 x2 => x1 ++ x2) acc.toArray (List.replicate k #[v1]) = (acc ++ List.replicate k v1).toArray := by
      intro k
      induction k with
      | zero => intro acc; simp
      | succ k ih =>
        intro acc
        rw [List.replicate_succ, List.foldl_cons, show acc.toArray ++ #[v1] = (acc ++ [v1]).toArray by simp, ih, List.append_assoc, List.replicate_succ]
        rfl
    exact g n.toNat []
  have N'' : News F.h₀ F.L h' ((T.h.objs.size, listOf (List.replicate n.toNat v1).toArray 0) :: (T.O ++ T.R)) := by
    rw [← ea]; exact N'
  have hr : TAll T.R (List.replicate n.toNat v1) (List.replicate n.toNat a0) := by
    generalize n.toNat = k
    induction k with
    | zero => exact .nil
    | succ k ih => exact .cons hv1 ih
  exact K ⟨h', T.tk, T.m, T.ad ++ [T.h.objs.size], T.O ++ [(T.h.objs.size, _)], T.R⟩ _ _ _ hw9 (V.newL hr F' N'' hlt) grow_new (den_new V)
theorem binOX_ok {op : Operator} {P : XV → List MO → Prop} (hw : binOX op x y ob P) (V : VR F T l ob) (D1 : Den T.ad T.R u x) (D2 : Den T.ad T.R v y)
    (K : ∀ T' r z ob', P z ob' → VR F T' l ob' → Gr F true T T' → Den T'.ad T'.R r z → Q r (T'.sh s)) : wpAny (model prog w) A (binaryOp op u v) Q E (T.sh s) := by
  have K' : ∀ {op'}, (binX op' x y fun v => P v ob) → wpAny (model prog w) A (binaryOp op' u v) Q E (T.sh s) := fun hw => binX_ok hw V D1 D2 fun T' r z hw V' G D => K T' r z ob hw V' G D
  cases op with
  | Mult =>
    rcases if_of (show cond _ _ _ from hw) with hw | hw
    · exact mulLX_ok hw V D1 D2 K
    · exact K' hw
  | _ => exact K' hw
theorem lenX_ok {P : Int → Prop} (hw : lenX x ob P) (V : VR F T l ob) (D : Den T.ad T.R u x) (K : ∀ i t tk, P i → Q (.int i t) ((T.tok tk).sh s)) : wpAny (model prog w) A (call (.builtin "len") [u]) Q E (T.sh s) := by
  rcases if_of hw with hw | hw
  · obtain ⟨ds, a, vs, n, rfl, ha, h1, hz, hw⟩ := asT_of hw D
    exact len_T V.N (V.mem ha) (by rw [h1.length]; lia -abstractProof) (K _ _ _ (h1.length ▸ hw))
  rcases if_of hw with hw | hw
  · obtain ⟨sx, t, rfl, hz, hw⟩ := asS_of hw D
    exact len_S (T := sx.cps.toList) hz (K _ _ _ hw)
  · obtain ⟨k, ds, a, vs, n, rfl, rfl, _, _, H, hz, hw⟩ := onL_of hw V D
    exact len_L V.N (V.memO H.mem) (by rw [H.all.length]; exact hz) (K _ _ _ (H.all.length ▸ hw))
end
end
section
open PySem.Calls PySem.Spec
theorem sub_plain {slice : Expr} (h : notSl slice = true) (o i : Value) : subscripted slice false o i = operate [o, i] (getItem o i) := by
  cases slice <;> first | rfl | cases h
theorem seq_bound {i : Int} {n j : Nat} (h : seqIndex? i n = some j) (hn : n ≤ 1000) : -(2 ^ 63) ≤ i ∧ i < 2 ^ 63 := by
  unfold seqIndex? at h
  simp at h
  lia -abstractProof
theorem DenL.get {ad : List Addr} {R : List (Addr × Obj)} {vs : List Value} {xs : List XV} (h : DenL ad R vs xs) : ∀ {j : Nat} {x : XV}, xs[j]? = some x → ∃ v, vs[j]? = some v ∧ Den ad R v x :=
  h.ind (p := fun vs xs => ∀ {j : Nat} {x : XV}, xs[j]? = some x → ∃ v, vs[j]? = some v ∧ Den ad R v x) (fun {j} _ e => by cases j <;> cases e) fun v _ _ _ d r j _ e => by
    cases j with
    | zero => cases e; exact ⟨v, rfl, d⟩
    | succ j => exact r e
section
variable {prog : Program} {w : World} {A : Around} {E : Value → Shared → Prop} {s : Shared} {F : Fm} {T : Sg} {l : List (Str × XV)} {ob : List MO} {u v : Value} {x y : XV} {Q : Value → Shared → Prop}
theorem itemX_ok {value slice : Expr} {P : XV → Prop} (hn : notSl slice = true) (hw : itemX x y ob P) (V : VR F T l ob) (D1 : Den T.ad T.R u x) (D2 : Den T.ad T.R v y) (K : ∀ tk r z, P z → Den T.ad T.R r z → Q r ((T.tok tk).sh s)) :
    wpAny (model prog w) A (subscriptTail value slice u v) Q E (T.sh s) := by
  refine kba_turn (value' := .Name (Str.ofString "_") ⟨0, 0, 0, 0⟩) (fun _ => rfl) ?_
  obtain ⟨i, t, rfl, hw⟩ := asI_of hw D2
  rcases if_of hw with hw | hw
  · obtain ⟨ds, a, vs, n, rfl, ha, h1, j, d, e1, e2, e3, hw⟩ := asT_of hw D1
    obtain ⟨v, hv, hd⟩ := h1.get e2
    obtain ⟨b1, b2⟩ := seq_bound e1 e3
    exact item_T V.N (V.mem ha) b1 b2 (by rw [h1.length]; exact e1) hv (K T.tk _ _ hw (.d hd)) (sub_plain hn _ _)
  rcases if_of hw with hw | hw
  · obtain ⟨sx, t', rfl, j, k, rfl, e2, e3, hw⟩ := asS_of hw D1
    exact item_S (T := sx.cps.toList) e2 e3 (K _ _ _ hw (.d (.str _ _))) (sub_plain hn _ _) fun _ => rfl
  rcases if_of hw with hw | hw
  · obtain ⟨xs, e, j, z, rfl, e2, e3, hw9⟩ := optX_some hw
    cases x with
    | t ys =>
      cases e
      cases D1 with
      | t hm hl =>
        obtain ⟨v, hv, hd⟩ := hl.get e2
        exact item_TN V.N (V.mem hm) hv (by rw [hl.length]; lia -abstractProof) (K T.tk _ _ hw9 hd) (sub_plain hn _ _)
    | _ => cases e
  rcases if_of hw with hw | hw
  · obtain ⟨xs, e, j, z, rfl, e2, e3, hw9⟩ := optX_some hw
    obtain ⟨k, hk, e⟩ := Option.bind_eq_some_iff.mp (show Option.bind _ _ = _ from e)
    obtain rfl := asO_eq hk
    obtain ⟨a, rfl, ha⟩ := den_o D1
    obtain ⟨a', vs, n, e1, hm, hl⟩ := rows_lsx V.rows (lsxA_eq e)
    obtain rfl : a = a' := Option.some.inj (ha.symm.trans e1)
    obtain ⟨v, hv, hd⟩ := hl.get e2
    exact item_LN V.N (V.memO hm) hv (by rw [hl.length]; lia -abstractProof) (K T.tk _ _ hw9 hd) (sub_plain hn _ _) fun _ => rfl
  · obtain ⟨k, ds, a, vs, n, rfl, rfl, _, _, H, j, d, rfl, e2, e3, hw⟩ := onL_of hw V D1
    obtain ⟨v, hv, hd⟩ := H.all.get e2
    exact item_LN V.N (V.memO H.mem) hv (by rw [H.all.length]; exact e3) (K T.tk _ _ hw (.d hd)) (sub_plain hn _ _) fun _ => rfl
theorem sliceX_ok {value : Expr} {le ue : Option Expr} {p : Pos} {lo hi : Option Int} {vl vu : Value} {P : XV → List MO → Prop} (hw : sliceX x lo hi ob P) (V : VR F T l ob) (D : Den T.ad T.R u x) (pl : IsPart vl lo) (pu : IsPart vu hi)
    (K : ∀ T' r z ob', P z ob' → VR F T' l ob' → Gr F true T T' → Den T'.ad T'.R r z → Q r (T'.sh s)) :
    wpAny (model prog w) A (subscriptTail value (.Slice le ue none p) u (.ref T.h.objs.size)) Q E { T.sh s with heap := T.h.push { cls := .type "slice", data := .fields #[vl, vu, .none] } } := by
  refine kba_turn (value' := .Name (Str.ofString "_") ⟨0, 0, 0, 0⟩) (fun _ => rfl) ?_
  rcases if_of hw with hw | hw
  · obtain ⟨ds, a, vs, n, rfl, ha, h1, ⟨z1, z2, z3⟩, hw⟩ := asT_of hw D
    rw [← h1.length] at z1 z2 z3 hw
    exact slice_tup (s := T.sh s) V.fr V.N (V.mem ha) pl pu (adj_clip lo hi vs.length) z2 (clip_le _ _ (Nat.le_refl _) _) z3 (fun D h' F' N' _ => K ⟨h', T.tk, T.m, T.ad, T.O, _⟩ _ _ ob hw (V.tup F' N') grow_tup (.d (.tuple (.head _) (((h1.drop _).take _).mono tsub_one)))) rfl (fun _ => rfl) (by rw [sizeLine_eq]; lia -abstractProof)
  rcases if_of hw with hw | hw
  · obtain ⟨x0, t, rfl, hw⟩ := asS_of hw D
    obtain ⟨a, e1, hw⟩ := optX_some hw
    obtain ⟨b, e2, hz, hw9⟩ := optX_some hw
    subst e1 e2
    cases pl
    cases pu
    exact slice_strN_ss (s := T.sh s) V.fr V.N (fun h' t' k F' N' => K ⟨h', k, T.m, T.ad, T.O, T.R⟩ _ _ ob hw9 (V.same F' N') .refl (.d (.str _ _))) rfl (fun _ => rfl) (by rw [sizeLine_eq]; lia -abstractProof)
  · have hl := cond_b hw
    have hw := cond_p hw
    cases lo with
    | some _ => cases hl
    | none =>
    obtain ⟨h, rfl, hw⟩ := optX_some hw
    obtain ⟨k, ds, a, vs, n, rfl, rfl, _, _, H, ⟨z1, z2⟩, hw⟩ := onL_of hw V D
    cases pl
    cases pu with
    | int _ t =>
      obtain ⟨b, rfl⟩ : ∃ b : Nat, h = b := ⟨h.toNat, by lia -abstractProof⟩
      exact slice_L (s := T.sh s) V.fr V.N (V.memO H.mem) (by rw [H.all.length]; exact z1) (fun D h' F' N' l1 => K ⟨h', T.tk, T.m, T.ad ++ [D], T.O ++ [(D, _)], T.R⟩ _ _ _ hw (V.newL (H.all.take _) F' N' l1) grow_new (den_new V)) rfl (fun _ => rfl)
end
end
section
open PySem.Calls PySem.Spec
noncomputable def attrOk (P : Params) (p : Addr × Str) : Bool := plainGet (heap P) p.1 p.2 && hasDictIn (heap P) p.1 && (match findIn (heap P) (.ref p.1) p.2 with
  | some a => noGet (heap P) a
  | none => false) && findIn (heap P) (.ref p.1) "__setattr__" == some (some (.builtin "object.__setattr__")) && plainOver (heap P) p.1 && (takerIn (heap P) p.1 p.2 == some none)
theorem attrs_ok (P : Params) : attrT.all (attrOk P) = true := by kernel_rfl
noncomputable def methOk (P : Params) (p : (Addr × Str) × Addr) : Bool := plainGet (heap P) p.1.1 p.1.2 && findIn (heap P) (.ref p.1.1) p.1.2 == some (some (.ref p.2)) && isFn (heap P) (.ref p.2) && keepIn (heap P) (.ref p.2)
theorem meths_ok (P : Params) : methT.all (methOk P) = true := by kernel_rfl
theorem fns_ok (P : Params) : fnT.all (fun f => keepIn (heap P) (.ref f)) = true := by kernel_rfl
noncomputable def globOk (P : Params) (p : Str × XV) : Bool := match p.2 with
  | .d (.int i) => (match nsIn (heap P) mainGlobals p.1 with
    | some (some (.int j _)) => i == j
    | _ => false)
  | .g v => nsIn (heap P) mainGlobals p.1 == some (some v) || (nsIn (heap P) mainGlobals p.1 == some none && bootBuiltins p.1 == some v && p.1 != "__name__")
  | _ => false
theorem globs_ok (P : Params) : globT.all (globOk P) = true := by kernel_rfl
theorem contains_mem {α : Type} [BEq α] [LawfulBEq α] {a : α} {l : List α} (h : l.contains a = true) : a ∈ l := by simpa using h
structure AttrFacts (P : Params) (C : Addr) (nm : Str) : Prop where
  get : plainGet (heap P) C nm = true
  dict : hasDictIn (heap P) C = true
  find : ∃ a, findIn (heap P) (.ref C) nm = some a ∧ noGet (heap P) a = true
  sets : findIn (heap P) (.ref C) (Str.ofString "__setattr__") = some (some (.builtin "object.__setattr__"))
  over : plainOver (heap P) C = true
  taker : takerIn (heap P) C nm = some none
theorem attr_facts (P : Params) {C : Addr} {nm : Str} (h : attrT.contains (C, nm) = true) : AttrFacts P C nm := by
  have z := List.all_eq_true.mp (attrs_ok P) _ (contains_mem h)
  unfold attrOk at z
  simp only [Bool.and_eq_true, beq_iff_eq] at z
  obtain ⟨⟨⟨⟨⟨z1, z2⟩, z3⟩, z4⟩, z5⟩, z6⟩ := z
  refine ⟨z1, z2, ?_, z4, z5, z6⟩
  split at z3
  · exact ⟨_, by assumption, z3⟩
  · cases z3
structure MethFacts (P : Params) (C : Addr) (nm : Str) (f : Addr) : Prop where
  get : plainGet (heap P) C nm = true
  find : findIn (heap P) (.ref C) nm = some (some (.ref f))
  fn : isFn (heap P) (.ref f) = true
  keep : keepIn (heap P) (.ref f) = true
theorem lookup_mem {α β : Type} [BEq α] [LawfulBEq α] {a : α} {b : β} {l : List (α × β)} (h : l.lookup a = some b) : (a, b) ∈ l := by
  induction l with
  | nil => cases h
  | cons p r ih =>
    rw [List.lookup_cons] at h
    cases e : a == p.1 with
    | true => rw [e] at h; cases h; rw [beq_iff_eq.mp e]; exact .head _
    | false => rw [e] at h; exact .tail _ (ih h)
theorem meth_facts (P : Params) {C : Addr} {nm : Str} {f : Addr} (h : methT.lookup (C, nm) = some f) : MethFacts P C nm f := by
  have z := List.all_eq_true.mp (meths_ok P) _ (lookup_mem h)
  unfold methOk at z
  simp only [Bool.and_eq_true, beq_iff_eq] at z
  obtain ⟨⟨⟨z1, z2⟩, z3⟩, z4⟩ := z
  exact ⟨z1, z2, z3, z4⟩
theorem glob_facts (P : Params) {x : Str} {v : XV} (h : globT.lookup x = some v) : ∃ u, (nsIn (heap P) mainGlobals x = some (some u) ∨ (nsIn (heap P) mainGlobals x = some none ∧ bootBuiltins x = some u ∧ x ≠ Str.ofString "__name__")) ∧ (∀ ad R, Den ad R u v) ∧ ∀ un, stb un v = true := by
  have z := List.all_eq_true.mp (globs_ok P) _ (lookup_mem h)
  unfold globOk at z
  split at z
  · rename_i i e
    obtain rfl : v = _ := e
    split at z
    · rename_i j t hn
      obtain rfl := beq_iff_eq.mp z
      exact ⟨_, .inl hn, fun _ _ => .d (.int _ _), fun _ => rfl⟩
    · cases z
  · rename_i u e
    obtain rfl : v = _ := e
    refine ⟨u, ?_, fun _ _ => .g _, fun _ => rfl⟩
    simp only [Bool.or_eq_true, Bool.and_eq_true, beq_iff_eq, bne_iff_ne] at z
    rcases z with z | z
    · exact .inl z
    · exact .inr ⟨z.1.1, z.1.2, z.2⟩
  · cases z
section
variable {P : Params} {ad : List Addr} {R : List (Addr × Obj)}
theorem getL_cons (nm x : Str) (t : Tok) (hs : Int) (v : Value) (es : List DictEntry) : getL nm (⟨hs, .str x t, v⟩ :: es) = cond (x == nm) (some (some v)) (getL nm es) := by
  have e : (DictEntry.mk hs (.str x t) v).key.isStr nm = (x == nm) := rfl
  have e2 : (DictEntry.mk hs (.str x t) v).refKey = false := rfl
  unfold getL
  rw [List.find?_cons, e]
  cases x == nm with
  | true => rfl
  | false => rw [List.any_cons, e2]; rfl
theorem ents_get {es : List DictEntry} {fs : List (Str × XV)} {nm : Str} {y : XV} (h : Ents P ad R es fs) : fs.lookup nm = some y → ∃ v, getL nm es = some (some v) ∧ Den ad R v y := by
  induction h with
  | nil => exact fun e => nomatch e
  | @cons x _ _ _ _ _ h r ih =>
    intro e
    rw [getL_cons]
    rw [List.lookup_cons] at e
    by_cases hx : x = nm
    · subst hx
      rw [beq_self_eq_true] at e ⊢
      cases e
      exact ⟨_, rfl, h⟩
    · rw [beq_eq_false_iff_ne.mpr (Ne.symm hx)] at e
      rw [beq_eq_false_iff_ne.mpr hx]
      exact ih e
theorem ents_none {es : List DictEntry} {fs : List (Str × XV)} {nm : Str} (h : Ents P ad R es fs) : fs.lookup nm = none → getL nm es = some none := by
  induction h with
  | nil => exact fun _ => rfl
  | @cons x _ _ _ _ _ h r ih =>
    intro e
    rw [getL_cons]
    rw [List.lookup_cons] at e
    by_cases hx : x = nm
    · subst hx
      rw [beq_self_eq_true] at e
      cases e
    · rw [beq_eq_false_iff_ne.mpr (Ne.symm hx)] at e
      rw [beq_eq_false_iff_ne.mpr hx]
      exact ih e
theorem getL_some {es : List DictEntry} {fs : List (Str × XV)} {nm : Str} (h : Ents P ad R es fs) : (getL nm es).isSome = true := by
  cases e : fs.lookup nm with
  | none => rw [ents_none h e]; rfl
  | some y => obtain ⟨v, e1, _⟩ := ents_get h e; rw [e1]; rfl
theorem ents_length {es : List DictEntry} {fs : List (Str × XV)} (h : Ents P ad R es fs) : es.length = fs.length := by
  induction h with
  | nil => rfl
  | cons _ _ ih => exact congrArg (· + 1) ih
theorem ents_put {nm : Str} {t : Tok} {v : Value} {y : XV} (hv : Den ad R v y) {es : List DictEntry} {fs : List (Str × XV)} (h : Ents P ad R es fs) : Ents P ad R (putL nm (PyData.keyHash P nm) (.str nm t) v es) (putF nm y fs) ∧ (∀ n, putN nm es (n + fs.length) = n + (putF nm y fs).length) := by
  induction h with
  | nil => exact ⟨.cons hv .nil, fun n => rfl⟩
  | @cons x t' v' y' es fs h r ih =>
    obtain ⟨i1, i2⟩ := ih
    by_cases hx : x = nm
    · subst hx
      constructor
      · have : putL x (PyData.keyHash P x) (.str x t) v (⟨PyData.keyHash P x, .str x t', v'⟩ :: es) = ⟨PyData.keyHash P x, .str x t', v⟩ :: es := by
          show (if (x == x) = true then _ else _) = _
          rw [beq_self_eq_true, if_pos rfl]
        rw [this]
        show Ents P ad R _ (if x = x then _ else _)
        rw [if_pos rfl]
        exact .cons hv r
      · intro n
        show putN x _ _ = n + (if x = x then _ else _ : List (Str × XV)).length
        rw [if_pos rfl]
        unfold putN
        rw [List.any_cons]
        show (if ((x == x) || _) = true then _ else _) = _
        rw [beq_self_eq_true, Bool.true_or, if_pos rfl]
        rfl
    · have hx' : (x == nm) = false := beq_eq_false_iff_ne.mpr hx
      constructor
      · have : putL nm (PyData.keyHash P nm) (.str nm t) v (⟨PyData.keyHash P x, .str x t', v'⟩ :: es) = ⟨PyData.keyHash P x, .str x t', v'⟩ :: putL nm (PyData.keyHash P nm) (.str nm t) v es := by
          show (if (x == nm) = true then _ else _) = _
          rw [hx', if_neg Bool.false_ne_true]
        rw [this]
        show Ents P ad R _ (if x = nm then _ else _)
        rw [if_neg hx]
        exact .cons h i1
      · intro n
        show putN nm _ _ = n + (if x = nm then _ else _ : List (Str × XV)).length
        rw [if_neg hx]
        have e : putN nm (⟨PyData.keyHash P x, .str x t', v'⟩ :: es) (n + (fs.length + 1)) = putN nm es (n + 1 + fs.length) := by
          unfold putN
          rw [List.any_cons]
          show (if ((x == nm) || _) = true then _ else _) = _
          rw [hx', Bool.false_or]
          split <;> lia -abstractProof
        rw [List.length_cons, List.length_cons, e, i2 (n + 1)]
        lia -abstractProof
theorem putF_len {nm : Str} {y : XV} {fs : List (Str × XV)} : (putF nm y fs).length ≤ fs.length + 1 := by
  induction fs with
  | nil => exact Nat.le_refl _
  | cons p r ih =>
    show (if p.1 = nm then _ else _ : List (Str × XV)).length ≤ _
    split
    · exact Nat.le_succ _
    · exact Nat.succ_le_succ ih
end
end
section
set_option genSizeOf false
set_option genInjectivity false
open PySem.Calls PySem.Spec
theorem extend_L {prog : Program} {w : World} {A : Around} {E : Value → Shared → Prop} {s : Shared} {h₀ : Heap} {L D b : Addr} {m : Str → Option Value} {news news' : List (Addr × Obj)} {n n2 : Nat} {us ws : List Value} {Q : Value → Shared → Prop} (F : Fr h₀ L s.heap m) (N : News h₀ L s.heap news) (hb : (b, tupO ws n2) ∈ news) (hne : ws ≠ [])
    (U : Upd D (listOf us.toArray n) (listOf (us ++ ws).toArray (n + 1)) news news') (hz : us.length + ws.length ≤ 100000)
    (h : ∀ h', Fr h₀ L h' m → News h₀ L h' news' → Q .none { s with heap := h' }) : wpAny (model prog w) A (call (.builtin "list.extend") [.ref D, .ref b]) Q E s :=
  kup_extend F N hb rfl (by simpa using hne) U (extend_door (by rw [List.size_toArray, List.size_toArray, sizeLine_eq]; lia -abstractProof)) (by show us.length ≤ _; rw [sizeLine_eq]; lia -abstractProof) (by rw [List.size_toArray, List.size_toArray, sizeLine_eq]; lia -abstractProof) h
theorem tall_snoc {im : List (Addr × Obj)} {ds : List Dat} {y : Dat} : ∀ {vs : List Value}, TAll im vs (ds ++ [y]) → ∃ vs' v, vs = vs' ++ [v] ∧ TAll im vs' ds ∧ TIn im v y := by
  induction ds with
  | nil =>
    intro vs h
    obtain ⟨v, ws, rfl, h1, h2⟩ := dat_cons h
    obtain rfl := dat_nil h2
    exact ⟨[], v, rfl, .nil, h1⟩
  | cons d ds ih =>
    intro vs h
    obtain ⟨v, ws, rfl, h1, h2⟩ := dat_cons h
    obtain ⟨vs', v', rfl, a, b⟩ := ih h2
    exact ⟨v :: vs', v', rfl, .cons h1 a, b⟩
noncomputable def XM.val : XM → Value
  | .own f => .ref f
  | .app => .builtin "list.append"
  | .pop => .builtin "list.pop"
  | .ext => .builtin "list.extend"
section
variable {prog : Program} {A : Around} {E : Value → Shared → Prop} {s : Shared} {F : Fm} {T : Sg} {l : List (Str × XV)} {ob : List MO} {u v : Value} {x y : XV} {nm : Str}
theorem attrX_ok {ex : Bool} {P : XV → Prop} {Q : Value → Shared → Prop} (X : (heap F.w.params).In F.h₀) (hw : attrX x nm ob P) (V : VR F T l ob) (D : Den T.ad T.R u x) (K : ∀ tk r z, P z → Den T.ad T.R r z → Q r ((T.tok tk).sh s)) :
    wpAny (model prog F.w) A (getAttr u nm ex) Q E (T.sh s) := by
  obtain ⟨k, C, fs, a, dx, es, rfl, H, hw⟩ := onI_of hw V D
  have hc := cond_b hw
  have hw := cond_p hw
  have f := attr_facts F.w.params hc
  obtain ⟨at_, f1, f2⟩ := f.find
  obtain ⟨z, hl, hw⟩ := optX_some hw
  have hz := cond_b hw
  have hw := cond_p hw
  obtain ⟨v, e1, e2⟩ := ents_get H.ents hl
  refine get_own V.fr X (InstAt.of_news V.N (V.memO H.mem) (V.memO H.dct)) f.get f.dict f1 f2 e1 ?_ (K _ _ _ hw e2)
  cases e2 with
  | d h => cases h <;> rfl
  | o h => rfl
  | _ => cases hz
theorem setAttrX_ok {P : List MO → Prop} {Q : Unit → Shared → Prop} (X : (heap F.w.params).In F.h₀) (hw : setAttrX x nm y ob P) (V : VR F T l ob) (D : Den T.ad T.R u x) (Dv : Den T.ad T.R v y)
    (K : ∀ T' ob', P ob' → VR F T' l ob' → Gr F true T T' → Q () (T'.sh s)) : wpAny (model prog F.w) A (setAttr u nm v) Q E (T.sh s) := by
  obtain ⟨k, C, fs, a, dx, es, rfl, H, hw⟩ := onI_of hw V D
  have hc := cond_b hw
  have hw := cond_p hw
  have hc1 := and_l hc
  have hc2 := and_r hc
  have hc2 := Nat.le_of_ble_eq_true hc2
  have f := attr_facts F.w.params hc1
  obtain ⟨e1, e2⟩ := ents_put (nm := nm) (t := T.tk + 1) Dv H.ents
  have e2 := e2 0
  rw [Nat.zero_add, Nat.zero_add] at e2
  obtain ⟨O', uo, r'⟩ := H.put _ _ e1
  exact set_dict (s := T.sh s) V.fr X V.N (InstAt.of_news V.N (V.memO H.mem) (V.memO H.dct)) rfl f.sets f.over f.taker f.dict (getL_some H.ents) (congrArg (Prod.mk _) e2) (upd_left uo (off_key V H.dct)) (by rw [ents_length e1]; exact Nat.le_trans putF_len (by lia -abstractProof)) fun h' F' N' =>
    K ⟨h', _, T.m, T.ad, O', T.R⟩ _ hw (V.upd F' N' (keys_upd uo) r') .refl
theorem setItemX_ok {i : Value} {z : XV} {P : List MO → Prop} {Q : Unit → Shared → Prop} (hw : setItemX x z y ob P) (V : VR F T l ob) (D : Den T.ad T.R u x) (Di : Den T.ad T.R i z) (Dv : Den T.ad T.R v y)
    (K : ∀ T' ob', P ob' → VR F T' l ob' → Gr F true T T' → Q () (T'.sh s)) : wpAny (model prog F.w) A (setItem u i v) Q E (T.sh s) := by
  obtain ⟨i, t, rfl, hw⟩ := asI_of hw Di
  obtain ⟨d, hd, hw⟩ := asD_of hw Dv
  obtain ⟨k, ds, a, vs, n, rfl, rfl, _, _, H, ⟨z1, z2, z3⟩, hw⟩ := onL_of hw V D
  obtain ⟨O', uo, r'⟩ := H.put _ _ n (H.all.set hd _)
  exact set_L (s := T.sh s) V.fr V.N (upd_left uo (off_key V H.mem)) z1 (by rw [H.all.length]; exact z2) (by lia -abstractProof) fun h' F' N' => K ⟨h', T.tk, T.m, T.ad, O', T.R⟩ _ hw (V.upd F' N' (keys_upd uo) r') .refl
theorem methX_ok {M : XM} {pl : Sem Bool} {Q : Value × List Value → Shared → Prop} (X : (heap F.w.params).In F.h₀) (hw : methX x nm ob = some M) (V : VR F T l ob) (D : Den T.ad T.R u x) (K : Q (M.val, [u]) (T.sh s)) :
    (∀ f, M = .own f → keepIn (heap F.w.params) (.ref f) = true) ∧ wpAny (model prog F.w) A (getMethod u nm pl) Q E (T.sh s) := by
  obtain ⟨k, hk, hw⟩ := Option.bind_eq_some_iff.mp hw
  cases hi : (instA ob[k]?).isSome with
  | true =>
    rw [hi] at hw
    obtain ⟨p, hp, hw⟩ := Option.bind_eq_some_iff.mp (show Option.bind _ _ = _ from hw)
    obtain ⟨_, C, fs, a, dx, es, rfl, H, rfl⟩ := onI_of (K := fun k' C fs => (C, fs) = p) (show optX (asO x) _ by rw [hk]; show optX (instA ob[k]?) _; rw [hp]; exact rfl) V D
    unfold imethX at hw
    cases hl : (fs.lookup nm).isNone with
    | false => rw [hl] at hw; cases hw
    | true =>
      rw [hl] at hw
      obtain ⟨f, hf, rfl⟩ := Option.map_eq_some_iff.mp (show Option.map _ _ = _ from hw)
      have g := meth_facts F.w.params hf
      exact ⟨fun _ e => by cases e; exact g.keep, method_inst V.fr X (InstAt.of_news V.N (V.memO H.mem) (V.memO H.dct)) g.get g.find g.fn (ents_none H.ents (Option.isNone_iff_eq_none.mp hl)) K⟩
  | false =>
    rw [hi] at hw
    obtain ⟨ds, hp, hw⟩ := Option.bind_eq_some_iff.mp (show Option.bind _ _ = _ from hw)
    obtain ⟨_, _, a, vs, n, _, rfl, _, _, H, _⟩ := onL_of (K := fun _ _ => True) (show optX (asO x) _ by rw [hk]; show optX (lstA ob[k]?) _; rw [hp]; trivial) V D
    unfold lmethX at hw
    cases e1 : nm == Str.ofString "append" with
    | true =>
      rw [e1] at hw; cases hw; obtain rfl := beq_iff_eq.mp e1
      exact ⟨(fun _ e => nomatch e), listMethod_K V.N (V.memO H.mem) PySem.F.slot_list_append PySem.F.type_list_append K⟩
    | false =>
    cases e2 : nm == Str.ofString "pop" with
    | true =>
      rw [e1, e2] at hw; cases hw; obtain rfl := beq_iff_eq.mp e2
      exact ⟨(fun _ e => nomatch e), kl_method V.N (V.memO H.mem) PySem.F.slot_list_pop PySem.F.type_list_pop K⟩
    | false =>
    cases e3 : nm == Str.ofString "extend" with
    | true =>
      rw [e1, e2, e3] at hw; cases hw; obtain rfl := beq_iff_eq.mp e3
      exact ⟨(fun _ e => nomatch e), kl_method V.N (V.memO H.mem) PySem.F.slot_list_extend PySem.F.type_list_extend K⟩
    | false => rw [e1, e2, e3] at hw; cases hw
variable {Q : Value → Shared → Prop} {P : XV → List MO → Prop} {xs : List XV} {vs : List Value}
theorem app_ok (hw : appX x xs ob P) (V : VR F T l ob) (D : Den T.ad T.R u x) (Dv : DenL T.ad T.R vs xs) (K : ∀ T' r z ob', P z ob' → VR F T' l ob' → Gr F true T T' → Den T'.ad T'.R r z → Q r (T'.sh s)) : wpAny (model prog F.w) A (call (.builtin "list.append") (u :: vs)) Q E (T.sh s) := by
  obtain ⟨y, v, rfl, Dv, hw⟩ := oneL_of hw Dv
  obtain ⟨d, hd, hw⟩ := asD_of hw Dv
  obtain ⟨k, ds, a, vs, n, rfl, rfl, _, _, H, z1, hw⟩ := onL_of hw V D
  obtain ⟨O', uo, r'⟩ := H.put _ _ (n + 1) (H.all.append (.cons hd .nil))
  exact append_L (s := T.sh s) V.fr V.N (upd_left uo (off_key V H.mem)) (fun h' F' N' => K ⟨h', T.tk, T.m, T.ad, O', T.R⟩ _ _ _ hw (V.upd F' N' (keys_upd uo) r') .refl (.d .none)) (by rw [H.all.length]; exact z1)
theorem ext_ok (hw : extX x xs ob P) (V : VR F T l ob) (D : Den T.ad T.R u x) (Dv : DenL T.ad T.R vs xs) (K : ∀ T' r z ob', P z ob' → VR F T' l ob' → Gr F true T T' → Den T'.ad T'.R r z → Q r (T'.sh s)) : wpAny (model prog F.w) A (call (.builtin "list.extend") (u :: vs)) Q E (T.sh s) := by
  obtain ⟨y, v, rfl, Dv, hw⟩ := oneL_of hw Dv
  obtain ⟨es, b, ws, n2, rfl, hb, hd, hw⟩ := asT_of hw Dv
  obtain ⟨k, ds, a, vs, n, rfl, rfl, _, _, H, ⟨z1, z2⟩, hw⟩ := onL_of hw V D
  obtain ⟨O', uo, r'⟩ := H.put _ _ (n + 1) (H.all.append hd)
  have hne : ws ≠ [] := fun e => by subst e; cases hd; exact z1 rfl
  exact extend_L (s := T.sh s) V.fr V.N (V.mem hb) hne (upd_left uo (off_key V H.mem)) (by rw [H.all.length, hd.length]; exact z2) fun h' F' N' => K ⟨h', T.tk, T.m, T.ad, O', T.R⟩ _ _ _ hw (V.upd F' N' (keys_upd uo) r') .refl (.d .none)
theorem pop_ok (hw : popX x ob P) (V : VR F T l ob) (D : Den T.ad T.R u x) (K : ∀ T' r z ob', P z ob' → VR F T' l ob' → Gr F true T T' → Den T'.ad T'.R r z → Q r (T'.sh s)) : wpAny (model prog F.w) A (call (.builtin "list.pop") [u]) Q E (T.sh s) := by
  obtain ⟨k, ds, a, vs, n, rfl, rfl, _, _, H, ds', y, rfl, z, hw⟩ := onL_of hw V D
  obtain ⟨vs', v, rfl, k1, k2⟩ := tall_snoc H.all
  obtain ⟨O', uo, r'⟩ := H.put _ _ (n + 1) k1
  exact pop_L (s := T.sh s) V.fr V.N (upd_left uo (off_key V H.mem)) (by rw [k1.length]; exact z) fun h' F' N' => K ⟨h', T.tk, T.m, T.ad, O', T.R⟩ _ _ _ hw (V.upd F' N' (keys_upd uo) r') .refl (.d k2)
end
end
section
set_option genSizeOf false
set_option genInjectivity false
open PySem.Calls PySem.Spec
noncomputable abbrev MM (w : World) : Model := model PySem.Challenge.rw_sa0370_02.row.prog w
structure CallOk (un : Bool) (w : World) (room : Nat) (f : Value) (xs : List XV) (ob : List MO) (P : XV → List MO → Prop) : Prop where
  ok : ∀ vs ad O R, Rows w.params ad R ob ad O → (keys O).Nodup → OwnOff R (keys O) → DenL ad R vs xs →
    Says w f vs room (O ++ R) (fun r news' => ∃ z ob' ad' O' R', P z ob' ∧ news' = O' ++ R' ∧ Rows w.params ad' R' ob' ad' O' ∧ (keys O').Nodup ∧ OwnOff R' (keys O') ∧ Den ad' R' r z ∧ Grow un false ad ad' R R')
theorem Says.conv {w : World} {f : Value} {vs : List Value} {room room' : Nat} {nw nw' : List (Addr × Obj)} {post post' : Value → List (Addr × Obj) → Prop} (h : Says w f vs room nw post) (hr : room ≤ room') (hs : ∀ p ∈ nw, p ∈ nw')
    (hp : ∀ (h₀ h' : Heap) (L : Addr) (r : Value) (news : List (Addr × Obj)), News h₀ L h' news → post r news → ∃ news', (∀ p ∈ news', p ∈ news) ∧ post' r news') : Says w f vs room' nw' post' := by
  intro mean mg mb dp un gd cn cs a ccd cl outer A₀ base h₀ L m s Q E B F X N T hk hdp hun hret
  refine h mean mg mb dp un gd cn cs a ccd cl outer A₀ base h₀ L m s Q E B F X (fun p hp => N p (hs p hp)) T hk (by lia -abstractProof) (by lia -abstractProof) fun r h' tk' news F' N' q => ?_
  obtain ⟨news', k, q'⟩ := hp h₀ h' L r news N' q
  exact hret r h' tk' news' F' (fun p hp => N' p (k p hp)) q'
noncomputable abbrev LOOSE : List Str := [Str.ofString "LINE_ENDS", Str.ofString "GREAT", Str.ofString "TURNS", Str.ofString "GREAT_ALONE", Str.ofString "SMALL_ALONE", Str.ofString "GREAT_WIDE", Str.ofString "Limits", Str.ofString "MOST_KEPT"]
noncomputable abbrev Fm.M (F : Fm) : Model := MM F.w
noncomputable abbrev Fm.A (F : Fm) : Around := ktrTop F.dp F.uu F.gd F.cn F.cs F.L F.a F.ccd F.cl F.outer
structure Sx (F : Fm) : Prop where
  B : Below F.A₀ F.base F.outer F.h₀
  X : (heap F.w.params).In F.h₀
  T : Top view (looseW view LOOSE) F.mean F.mg F.mb F.h₀
  hk : F.cs.kind = .function
  hd : F.dp + F.room < recursionLimit
  hu : F.uu + 8 * F.room < cLine
  big : F.c.big = true → 8 ≤ F.room
  nm : ∀ x, F.env.kindOf x = F.c.names.lookup x
  nd : ∀ p ∈ F.c.names, p.1 ≠ Str.ofString "__debug__"
  ek : F.env.scope.kind = .function
  gl : F.env.globals = mainGlobals
  bl : F.env.builtins = builtinsNs
  lc : F.env.locals = F.cm.getD F.L
  call : ∀ f xs ob P, F.c.call f xs ob P → CallOk F.c.un F.w F.room (.ref f) xs ob P
noncomputable abbrev KE (F : Fm) (q : Bool) (T : Sg) (l : List (Str × XV)) (P : XV → List MO → Prop) (s : Shared) (Q : Value → Shared → Prop) : Prop :=
  ∀ T' r z ob', P z ob' → VR F T' l ob' → Gr F q T T' → Den T'.ad T'.R r z → Q r (T'.sh s)
noncomputable def SE (F : Fm) (f : Nat) : Prop := ∀ {e : Expr} {l : List (Str × XV)} {ob : List MO} {P : XV → List MO → Prop}, wE F.c f e l ob P → ∀ {s : Shared} {T : Sg} {Q : Value → Shared → Prop}, VR F T l ob → KE F (still e) T l P s Q →
  wpAny F.M F.A (eval e F.env) Q F.E (T.sh s)
noncomputable def SL (F : Fm) (f : Nat) : Prop := ∀ {es : List Expr} {pos : Pos} {l : List (Str × XV)} {ob : List MO} {P : List XV → List MO → Prop}, wL F.c f es l ob P → ∀ {s : Shared} {T : Sg} {Q : List Value → Shared → Prop}, VR F T l ob →
  (∀ T' vs xs ob', P xs ob' → VR F T' l ob' → Gr F (es.all still) T T' → DenL T'.ad T'.R vs xs → vs.length = es.length → Q vs (T'.sh s)) →
  wpAny F.M F.A (spliced (backTo pos (starEach es F.env))) Q F.E (T.sh s)
noncomputable def stillO : Option Expr → Bool
  | some e => still e
  | none => true
noncomputable def SP (F : Fm) (f : Nat) : Prop := ∀ {e : Option Expr} {l : List (Str × XV)} {ob : List MO} {P : Option Int → List MO → Prop}, wP F.c f e l ob P → ∀ {s : Shared} {T : Sg} {Q : Value → Shared → Prop}, VR F T l ob →
  (∀ T' r z ob', P z ob' → VR F T' l ob' → Gr F (stillO e) T T' → IsPart r z → Q r (T'.sh s)) →
  wpAny F.M F.A (evalPart e F.env) Q F.E (T.sh s)
noncomputable def SO (F : Fm) (f : Nat) : Prop := ∀ {op : BoolOp} {es : List Expr} {pos : Pos} {l : List (Str × XV)} {ob : List MO} {P : XV → List MO → Prop}, wO F.c f op es l ob P → ∀ {s : Shared} {T : Sg} {Q : Value → Shared → Prop}, VR F T l ob → KE F false T l P s Q →
  wpAny F.M F.A (eval (.BoolOp op es pos) F.env) Q F.E (T.sh s)
noncomputable abbrev KB (F : Fm) (T : Sg) (l : List (Str × XV)) (P : Bool → List MO → Prop) (s : Shared) (Q : Bool → Shared → Prop) : Prop :=
  ∀ T' t ob', P t ob' → VR F T' l ob' → Gr F false T T' → Q t (T'.sh s)
noncomputable def SB (F : Fm) (f : Nat) : Prop := ∀ {e : Expr} {l : List (Str × XV)} {ob : List MO} {P : Bool → List MO → Prop}, wB F.c f e l ob P → ∀ {s : Shared} {T : Sg} {Q : Bool → Shared → Prop}, VR F T l ob → KB F T l P s Q →
  wpAny F.M F.A (PySem.isTrue e F.env (eval e F.env)) Q F.E (T.sh s)
noncomputable def SBs (F : Fm) (f : Nat) : Prop := ∀ {op : BoolOp} {es : List Expr} {pos : Pos} {whole : Sem Value} {l : List (Str × XV)} {ob : List MO} {P : Bool → List MO → Prop}, wBs F.c f op es l ob P → ∀ {s : Shared} {T : Sg} {Q : Bool → Shared → Prop}, VR F T l ob → KB F T l P s Q →
  wpAny F.M F.A (PySem.isTrue (.BoolOp op es pos) F.env whole) Q F.E (T.sh s)
noncomputable def SC (F : Fm) (f : Nat) : Prop := ∀ {x : XV} {u : Value} {ops : List CmpOp} {es : List Expr} {pos : Pos} {l : List (Str × XV)} {ob : List MO} {P : Bool → List MO → Prop}, wC F.c f x ops es l ob P → stb F.c.un x = true → ∀ {s : Shared} {T : Sg} {Q : Bool → Shared → Prop}, VR F T l ob → Den T.ad T.R u x → KB F T l P s Q →
  wpAny F.M F.A (testChain pos u ops (evalEach es F.env)) Q F.E (T.sh s)
structure SndE (F : Fm) (f : Nat) : Prop where
  e : SE F f
  l : SL F f
  p : SP F f
  o : SO F f
  b : SB F f
  bs : SBs F f
  ch : SC F f
section
variable {F : Fm} {f : Nat}
theorem Grow.any {un q q' : Bool} {ad ad' ad'' : List Addr} {R R' R'' : List (Addr × Obj)} (G : Grow un q ad ad' R R') (H : Grow un q' ad' ad'' R' R'') : Grow un false ad ad'' R R'' := G.trans H (fun h => nomatch h) (fun h => nomatch h)
theorem Grow.no {un q : Bool} {ad ad' : List Addr} {R R' : List (Addr × Obj)} (G : Grow un q ad ad' R R') : Grow un false ad ad' R R' := G.weak fun h => nomatch h
theorem star_cons {e : Expr} (h : notStar e = true) (r : List Expr) (env : Env) : starEach (e :: r) env = (false, eval e env) :: starEach r env := by
  cases e <;> first | rfl | cases h
theorem no_star {es : List Expr} {env : Env} {pos : Pos} (h : es.all notStar = true) : ((backTo pos (starEach es env)).any fun x => x.1) = false := by
  induction es with
  | nil => rfl
  | cons e r ih =>
    have h1 := and_l h
    have h2 := and_r h
    rw [star_cons h1]
    exact (Bool.false_or _).trans (ih h2)
theorem marks_of {e : Expr} (h : notSet e = true) (op : CmpOp) : behindInMarks op e = false := by
  cases e <;> first | rfl | cases h
theorem args_of (ih : SE F f) (il : SL F f) : SL F (f + 1) := by
  intro es pos l ob P hw s T Q V K
  cases es with
  | nil => exact args_nil (K T [] [] ob hw V .refl .nil rfl)
  | cons e r =>
    have h1 := cond_b hw
    have hw := cond_p hw
    refine args_cons (ih hw V fun T1 v x ob1 hw V1 G1 D1 => ?_) (star_cons h1 r _)
    have h2 := cond_b hw
    have hw := cond_p hw
    refine il hw V1 fun T2 vs xs ob2 hw V2 G2 D2 hl => ?_
    exact K T2 (v :: vs) (x :: xs) ob2 hw V2 (G1.trans G2 (fun h => (Bool.and_eq_true_iff.mp h).1) (fun h => (Bool.and_eq_true_iff.mp h).2)) (.cons (den_grow D1 G2 h2) D2) (congrArg (· + 1) hl)
theorem part_of (ih : SE F f) : SP F (f + 1) := by
  intro e l ob P hw s T Q V K
  cases e with
  | none => exact evalPart_none_step (K T _ _ ob hw V .refl .none)
  | some e =>
    refine evalPart_some_step (ih hw V fun T1 v x ob1 hw V1 G1 D1 => ?_)
    obtain ⟨i, t, rfl, hw⟩ := asI_of (show optX (asI x) (fun i => P (some i) ob1) from hw) D1
    exact K T1 _ _ ob1 hw V1 G1 (.int _ _)
theorem bool_of (ih : SE F f) (io : SO F f) : SO F (f + 1) := by
  intro op es pos l ob P hw s T Q V K
  cases es with
  | nil => exact (show False from hw).elim
  | cons e r =>
  cases r with
  | nil => exact BoolOp_one (ih hw V fun T1 v x ob1 hw V1 G1 D1 => K T1 v x ob1 hw V1 G1.no D1)
  | cons e2 r =>
    cases op with
    | And =>
      refine BoolOp_and (ih hw V fun T1 v x ob1 hw V1 G1 D1 => truthX_ok hw D1 fun b hw => ?_)
      cases b with
      | true => exact io hw V1 fun T2 v x ob1 hw V1 G2 D1 => K T2 _ _ _ hw V1 (G1.any G2) D1
      | false => exact K T1 _ _ _ hw V1 G1.no D1
    | Or =>
      refine BoolOp_or (ih hw V fun T1 v x ob1 hw V1 G1 D1 => truthX_ok hw D1 fun b hw => ?_)
      cases b with
      | false => exact io hw V1 fun T2 v x ob1 hw V1 G2 D1 => K T2 _ _ _ hw V1 (G1.any G2) D1
      | true => exact K T1 _ _ _ hw V1 G1.no D1
theorem tests_of (ib : SB F f) (ibs : SBs F f) : SBs F (f + 1) := by
  intro op es pos whole l ob P hw s T Q V K
  cases es with
  | nil =>
    cases op with
    | And => exact isTrue_and_nil (K T _ _ hw V .refl)
    | Or => exact isTrue_or_nil (K T _ _ hw V .refl)
  | cons e r =>
    cases op with
    | And =>
      refine isTrue_and (ib hw V fun T1 t ob1 hw V1 G1 => ?_)
      cases t with
      | true => exact ibs hw V1 fun T2 t ob1 hw V1 G2 => K T2 _ _ hw V1 (G1.any G2)
      | false => exact K T1 _ _ hw V1 G1
    | Or =>
      refine isTrue_or (ib hw V fun T1 t ob1 hw V1 G1 => ?_)
      cases t with
      | false => exact ibs hw V1 fun T2 t ob1 hw V1 G2 => K T2 _ _ hw V1 (G1.any G2)
      | true => exact K T1 _ _ hw V1 G1
theorem cmp_of (S : Sx F) (ih : SE F f) {x y : Expr} {op : CmpOp} {l : List (Str × XV)} {ob : List MO} {P : Bool → List MO → Prop} (hw : wE F.c f x l ob fun x ob1 => cond (stb F.c.un x || still y) (wE F.c f y l ob1 fun y ob2 => cmpX F.c.big op x y ob2 fun t => P t ob2) False)
    {s : Shared} {T : Sg} {Q : Value → Shared → Prop} (V : VR F T l ob) (K : ∀ T' t ob', P t ob' → VR F T' l ob' → Gr F false T T' → Q (.bool t) (T'.sh s)) :
    wpAny F.M F.A (eval x F.env) (fun v s1 => wpAny F.M F.A (eval y F.env) (fun u s2 => wpAny F.M F.A (compareOp op v u) Q F.E s2) F.E s1) F.E (T.sh s) := by
  refine ih hw V fun T1 v x ob1 hw V1 G1 D1 => ?_
  have h2 := cond_b hw
  have hw := cond_p hw
  refine ih hw V1 fun T2 v2 x2 ob2 hw V2 G2 D2 => ?_
  exact cmpX_ok hw V2 (by have := S.hu; show F.uu < _; lia -abstractProof) (fun h => by have := S.hu; have := S.big h; show F.uu + 64 < _; lia -abstractProof) (den_grow D1 G2 h2) D2 fun b tk hw => K (T2.tok tk) b ob2 hw V2.tok (G1.any G2)
theorem marks_all : ∀ (ops : List CmpOp) (es : List Expr), es.all notSet = true → lastMarks ops es = false
  | [], [], _ | [], _ :: _, _ | _ :: _, [], _ => by simp [lastMarks]
  | [op], [e], h => marks_of (Bool.and_eq_true_iff.mp h).1 op
  | [op], e :: e2 :: es, h => by simp [lastMarks]
  | op :: op2 :: ops, [e], h => by simp [lastMarks]
  | op :: op2 :: ops, e :: e2 :: es, h => marks_all (op2 :: ops) (e2 :: es) (Bool.and_eq_true_iff.mp h).2
theorem chain_of (S : Sx F) (ih : SE F f) (ic : SC F f) : SC F (f + 1) := by
  intro x u ops es pos l ob P hw hs s T Q V D K
  have hu : F.A.units < cLine := by have := S.hu; show F.uu < _; lia -abstractProof
  have hb : F.c.big = true → F.A.units + 64 < cLine := fun h => by have := S.hu; have := S.big h; show F.uu + 64 < _; lia -abstractProof
  cases ops with
  | nil => exact (show False from hw).elim
  | cons op ops =>
  cases es with
  | nil => cases ops <;> exact (show False from hw).elim
  | cons e es =>
  cases ops with
  | nil =>
    cases es with
    | cons _ _ => exact (show False from hw).elim
    | nil =>
      refine test_last (ih (show wE F.c f e l ob _ from hw) V fun T1 v y ob1 hw V1 G1 D1 => ?_)
      exact cmpX_ok hw V1 hu hb (den_grow D G1 (by rw [hs]; rfl)) D1 fun b tk hw => wpAny_truthy_bool (K (T1.tok tk) b ob1 hw V1.tok G1.no)
  | cons op2 ops =>
    cases es with
    | nil => exact (show False from hw).elim
    | cons e2 es =>
      refine test_link (ih (show wE F.c f e l ob _ from hw) V fun T1 v y ob1 hw V1 G1 D1 => ?_)
      have h2 := cond_b hw
      have hw := cond_p hw
      refine cmpX_ok hw V1 hu hb (den_grow D G1 (by rw [hs]; rfl)) D1 fun b tk hw => wpAny_truthy_bool ?_
      cases b with
      | true => exact ic (es := e2 :: es) hw h2 (V1.tok (tk := tk)) D1 fun T2 t ob2 hw V2 G2 => K T2 t ob2 hw V2 (G1.any G2)
      | false => exact K (T1.tok tk) false ob1 hw V1.tok G1.no
theorem test_of (S : Sx F) (ih : SE F f) (ib : SB F f) (ibs : SBs F f) (ic : SC F f) : SB F (f + 1) := by
  intro e l ob P hw s T Q V K
  have plain : ∀ {e'}, (∀ (env : Env) (wh : Sem Value), PySem.isTrue e' env wh = (do let v ← wh; standAt e'.pos; holding [v] (truthy v))) → e = e' → cond (plainT e') (wE F.c f e' l ob fun x ob1 => truthX x fun t => P t ob1) False →
      wpAny F.M F.A (PySem.isTrue e F.env (eval e F.env)) Q F.E (T.sh s) := by
    rintro e' hs rfl hw
    have hw := cond_p hw
    exact isTrue_plain (ih hw V fun T1 v x ob1 hw V1 G1 D1 => truthX_ok hw D1 fun t hw => K T1 _ _ hw V1 G1.no) (hs _ _)
  cases e with
  | Name x p => exact plain (fun _ _ => rfl) rfl hw
  | Attribute o n p => exact plain (fun _ _ => rfl) rfl hw
  | Call g as kw p => exact plain (fun _ _ => rfl) rfl hw
  | Subscript o i p => exact plain (fun _ _ => rfl) rfl hw
  | UnaryOp op x p =>
    cases op with
    | Not => exact isTrue_not (ib hw V fun T1 t ob1 hw V1 G1 => K T1 _ _ hw V1 G1)
    | _ => exact (show False from hw).elim
  | BoolOp op es p => exact ibs hw V K
  | Compare x ops ys p =>
    cases ops with
    | nil => exact (show False from hw).elim
    | cons op r =>
    cases r with
    | nil =>
      cases ys with
      | nil => exact (show False from hw).elim
      | cons y r =>
      cases r with
      | cons _ _ => exact (show False from hw).elim
      | nil =>
        have hn := cond_b hw
        have hw := cond_p hw
        exact wpAny_isTrue_Compare1 (cmp_of S ih hw V fun T2 t ob2 hw V2 G2 => wpAny_truthy_bool (K T2 _ _ hw V2 G2)) (marks_of hn op)
    | cons op2 ops =>
      cases ys with
      | nil => exact (show False from hw).elim
      | cons y r =>
      cases r with
      | nil => exact (show False from hw).elim
      | cons y2 ys =>
        have h1 := cond_b hw
        have hw := cond_p hw
        refine isTrue_chain (ih hw V fun T1 u z ob1 hw V1 G1 D1 => ?_) (marks_all _ _ h1)
        have h2 := cond_b hw
        have hw := cond_p hw
        exact ic (es := y :: y2 :: ys) hw h2 V1 D1 fun T2 t ob2 hw V2 G2 => K T2 t ob2 hw V2 (G1.any G2)
  | _ => exact (show False from hw).elim
theorem nameE_K {M : Model} {A : Around} {E : Value → Shared → Prop} {s : Shared} {K : Frag} {h₀ : Heap} {L : Addr} {m mg mb : Str → Option Value} {p : Program} {loose : List Str} {x : Str} {pos : Pos} {v : Value} {Q : Value → Shared → Prop} {env : Env} (hg : env.globals = mainGlobals) (F : Fr h₀ L s.heap m) (X : K.In h₀) (T : TopRead p loose mg mb h₀) (e : nsIn K mainGlobals x = some (some v)) (h : Q v s)
    (hk : env.scope.kind = .function) (hx : env.kindOf x = some .globalImplicit) (hd : (x == ("__debug__" : Str)) = false) : wpAny M A (eval (.Name x pos) env) Q E s :=
  Name_function_global hk hx (loadGlobal_global (by rw [hg]; exact T.g.keeps F.keep) (mg_of X T.g e) h) hd
theorem nameE_B {M : Model} {A : Around} {E : Value → Shared → Prop} {s : Shared} {K : Frag} {h₀ : Heap} {L : Addr} {m mg mb : Str → Option Value} {p : Program} {loose : List Str} {x : Str} {pos : Pos} {v : Value} {Q : Value → Shared → Prop} {env : Env} (hg : env.globals = mainGlobals) (hb : env.builtins = builtinsNs) (F : Fr h₀ L s.heap m) (X : K.In h₀) (T : TopRead p loose mg mb h₀) (e : nsIn K mainGlobals x = some none) (hv : bootBuiltins x = some v) (hn : x ≠ "__name__") (h : Q v s)
    (hk : env.scope.kind = .function) (hx : env.kindOf x = some .globalImplicit) (hd : (x == ("__debug__" : Str)) = false) : wpAny M A (eval (.Name x pos) env) Q E s :=
  Name_function_global hk hx (loadGlobal_builtin (by rw [hg]; exact T.g.keeps F.keep) (mg_none_of X T.g e) (by rw [hb]; exact T.b.keeps F.keep) ((T.builtins x hn).trans hv) h) hd
theorem name_ok (S : Sx F) {x : Str} {p : Pos} {l : List (Str × XV)} {ob : List MO} {P : XV → Prop} (hw : nameX F.c x l ob P) {s : Shared} {T : Sg} {Q : Value → Shared → Prop} (V : VR F T l ob)
    (K : ∀ r z, P z → Den T.ad T.R r z → Q r (T.sh s)) : wpAny F.M F.A (eval (.Name x p) F.env) Q F.E (T.sh s) := by
  have hk : ∀ {k}, F.c.names.lookup x = some k → F.env.kindOf x = some k ∧ (x == Str.ofString "__debug__") = false := fun h => ⟨(S.nm x).trans h, beq_eq_false_iff_ne.mpr (S.nd _ (lookup_mem h))⟩
  unfold nameX at hw
  cases h1 : F.c.names.lookup x == some .local with
  | true =>
    rw [h1] at hw
    obtain ⟨v, hl, hw⟩ := optX_some (show optX _ _ from hw)
    have hx := beq_iff_eq.mp h1
    obtain ⟨k1, k2⟩ := hk hx
    obtain ⟨u, hu, hd, _⟩ := V.loc _ _ hl
    unfold Rd at hu
    rw [hx] at hu
    have hlc := S.lc
    cases hc : F.cm with
    | none =>
      rw [hc] at hu hlc
      exact wpAny_Name (wpAny_loadName_local S.ek k1 (by rw [hlc]; exact V.fr.ns) hu (K _ _ hw hd)) k2
    | some C =>
      rw [hc] at hu hlc
      obtain ⟨oC, m₂, e1, e2, e3⟩ := hu
      exact wpAny_Name (wpAny_loadName_local S.ek k1 (by rw [hlc]; exact e2.ns (V.N _ (V.mem e1)).1) e3 (K _ _ hw hd)) k2
  | false =>
    rw [h1] at hw
    cases h2 : F.c.names.lookup x == some .globalImplicit with
    | true =>
        rw [h2] at hw
        obtain ⟨k1, k2⟩ := hk (beq_iff_eq.mp h2)
        obtain ⟨v, hl, hw⟩ := optX_some (show optX _ _ from hw)
        obtain ⟨u, hg, hd, _⟩ := glob_facts F.w.params hl
        rcases hg with hg | ⟨h1, h2, h3⟩
        · exact nameE_K S.gl V.fr S.X (topRead_of S.T) hg (K _ _ hw (hd _ _)) S.ek k1 k2
        · exact nameE_B S.gl S.bl V.fr S.X (topRead_of S.T) h1 h2 h3 (K _ _ hw (hd _ _)) S.ek k1 k2
    | false =>
      rw [h2] at hw
      have h3 := cond_b hw
      have hw := cond_p hw
      obtain ⟨k1, k2⟩ := hk (beq_iff_eq.mp h3)
      obtain ⟨k, y, a, o, u, _, hc, _, H, hw⟩ := onC_of h3 hw V
      exact wpAny_Name (wpAny_loadName_cell S.ek k1 hc ⟨o, (V.N _ (V.memO H.mem)).1, H.dat⟩ (K _ _ hw H.den)) k2
theorem own_ok (S : Sx F) {f : Addr} {xs : List XV} {vs : List Value} {l : List (Str × XV)} {ob : List MO} {P : XV → List MO → Prop} (hw : F.c.call f xs ob P) {s : Shared} {T : Sg} {Q : Value → Shared → Prop} (V : VR F T l ob)
    (D : DenL T.ad T.R vs xs) (K : KE F false T l P s Q) : wpAny F.M F.A (call (.ref f) vs) Q F.E (T.sh s) :=
  (S.call f xs ob P hw).ok vs T.ad T.O T.R V.rows V.nd V.off D _ _ _ _ _ _ _ _ _ _ _ _ _ _ _ _ _ (T.sh s) _ _ S.B V.fr S.X V.N S.T S.hk S.hd S.hu (by
    rintro r h' tk' news' F' N' ⟨z, ob', ad', O', R', hz, rfl, hr, hn, ho, hd, hg⟩
    refine K ⟨h', tk', T.m, ad', O', R'⟩ r z ob' hz ⟨F', N', hr, hn, ho, V.mt, fun x v hx => ?_⟩ hg hd
    obtain ⟨u, a, b, c⟩ := V.loc x v hx
    obtain ⟨e, _, rfl⟩ := hg.ext
    exact ⟨u, a.mono (fun _ => mem_r), den_grow b hg (by rw [c]; rfl), c⟩)
theorem meth_eq {o : Expr} (h : isNA o = true) (name : Str) {apos pos : Pos} {args : List Expr} (env : Env) (hs : args.all notStar = true) (hl : (apos.endLine == pos.line) = true) (hn : args.length < 30) : ∃ pl, eval (.Call (.Attribute o name apos) args [] pos) env = (do
    let ov ← eval o env
    standAt apos.atName
    let (f, first) ← holding [ov] (getMethod ov name pl)
    callWith pos f first (backTo pos (starEach args env)) []) := by
  have hf : methodCallForm (args.length + 0) (backTo pos (starEach args env)) (backToKw pos (keywordEach [] env)) = true := by
    have e1 : ((backTo pos (starEach args env)).all (!·.1)) = true := by
      have := no_star (env := env) (pos := pos) hs
      rw [List.all_eq_not_any_not]
      simpa using this
    unfold methodCallForm
    rw [e1]
    show (true && true && decide (args.length + 0 + 0 < 30)) = true
    simpa using hn
  have hp : methodCallPos true o env apos pos = pure pos := by
    unfold methodCallPos
    rw [hl]
    rfl
  refine ⟨do return (← importBound o env).getD true, ?_⟩
  have e : eval (.Call (.Attribute o name apos) args [] pos) env = (do
      let ov ← eval o env
      standAt apos.atName
      methodCall o name apos pos env ov (args.length + 0) (backTo pos (starEach args env)) (backToKw pos (keywordEach [] env))) := by
    cases o with
    | Name x p => rfl
    | Attribute a b c => rfl
    | _ => cases h
  rw [e]
  unfold methodCall
  rw [hf, hp]
  rfl
theorem list_T {prog : Program} {w : World} {A : Around} {E : Value → Shared → Prop} {s : Shared} {h₀ : Heap} {L b : Addr} {m : Str → Option Value} {news : List (Addr × Obj)} {n : Nat} {vs : List Value} {Q : Value → Shared → Prop} (F : Fr h₀ L s.heap m) (N : News h₀ L s.heap news) (hb : (b, tupO vs n) ∈ news) (hz : vs.length ≤ 100000)
    (h : ∀ D c h', Fr h₀ L h' m → News h₀ L h' ((D, listOf vs.toArray c) :: news) → (∀ q ∈ news, q.1 < D) → Q (.ref D) { s with heap := h' }) : wpAny (model prog w) A (call (.type "list") [.ref b]) Q E s :=
  kup_listOfT F N hb rfl h (by show vs.length ≤ _; rw [sizeLine_eq]; lia -abstractProof)
theorem listX_ok {xs : List XV} {vs : List Value} {l : List (Str × XV)} {ob : List MO} {Pc : XV → List MO → Prop} {A : Around} (hw : listX xs ob Pc) {s : Shared} {T : Sg} {Q : Value → Shared → Prop} (V : VR F T l ob) (D : DenL T.ad T.R vs xs)
    (K : KE F true T l Pc s Q) : wpAny F.M A (call (.type "list") vs) Q F.E (T.sh s) := by
  obtain ⟨x, v, rfl, D1, hw⟩ := oneL_of hw D
  obtain ⟨ds, a, us, n, rfl, hm, hd, hz, hw⟩ := asT_of hw D1
  exact list_T (s := T.sh s) V.fr V.N (V.mem hm) (by rw [hd.length]; lia -abstractProof) fun D' c' h' F' N' l1 => K ⟨h', T.tk, T.m, T.ad ++ [D'], T.O ++ [(D', _)], T.R⟩ _ _ _ hw (V.newL hd F' N' l1) grow_new (den_new V)
noncomputable def XG.val : XG → Value
  | .own f => .ref f
  | .len => .builtin "len"
  | .ord => .builtin "ord"
  | .isi => .builtin "isinstance"
  | .list => .type "list"
  | .min => .builtin "min"
theorem kindG_val {x : XV} {G : XG} (h : kindG x = some G) : x = .g G.val ∧ ∀ f, G = .own f → fnT.contains f = true := by
  obtain ⟨v, e, h0⟩ := Option.bind_eq_some_iff.mp h
  obtain rfl := asG_eq e
  clear h
  cases v with
  | ref a =>
    replace h0 : cond (fnT.contains a) (some (XG.own a)) none = some G := h0
    cases hc : fnT.contains a with
    | true => rw [hc] at h0; cases h0; exact ⟨rfl, fun _ e => by cases e; exact hc⟩
    | false => rw [hc] at h0; cases h0
  | builtin n =>
    replace h0 : cond (n == "len") (some XG.len) (cond (n == "ord") (some .ord) (cond (n == "isinstance") (some .isi) (cond (n == "min") (some .min) none))) = some G := h0
    cases e1 : n == "len" with
    | true => rw [e1] at h0; cases h0; obtain rfl := beq_iff_eq.mp e1; exact ⟨rfl, (fun _ e => nomatch e)⟩
    | false =>
    cases e2 : n == "ord" with
    | true => rw [e1, e2] at h0; cases h0; obtain rfl := beq_iff_eq.mp e2; exact ⟨rfl, (fun _ e => nomatch e)⟩
    | false =>
    cases e3 : n == "isinstance" with
    | true => rw [e1, e2, e3] at h0; cases h0; obtain rfl := beq_iff_eq.mp e3; exact ⟨rfl, (fun _ e => nomatch e)⟩
    | false =>
    cases e4 : n == "min" with
    | true => rw [e1, e2, e3, e4] at h0; cases h0; obtain rfl := beq_iff_eq.mp e4; exact ⟨rfl, (fun _ e => nomatch e)⟩
    | false => rw [e1, e2, e3, e4] at h0; cases h0
  | type n =>
    replace h0 : cond (n == "list") (some XG.list) none = some G := h0
    cases e1 : n == "list" with
    | true => rw [e1] at h0; cases h0; obtain rfl := beq_iff_eq.mp e1; exact ⟨rfl, (fun _ e => nomatch e)⟩
    | false => rw [e1] at h0; cases h0
  | _ => cases h0
theorem isi_ok {A : Around} {x y : XV} {u v : Value} {l : List (Str × XV)} {ob : List MO} {P : Bool → Prop} {s : Shared} {T : Sg} {Q : Value → Shared → Prop} (hw : cond (isTy y) (optX (asD x) fun d => P (isTup d)) False) (V : VR F T l ob) (D1 : Den T.ad T.R u x) (D2 : Den T.ad T.R v y)
    (K : ∀ b tk, P b → Q (.bool b) ((T.tok tk).sh s)) : wpAny F.M A (call (.builtin "isinstance") [u, v]) Q F.E (T.sh s) := by
  have h1 := cond_b hw
  have hw := cond_p hw
  obtain rfl := asG_eq (beq_iff_eq.mp h1)
  obtain rfl := den_g D2
  obtain ⟨d, hd, hw⟩ := asD_of hw D1
  cases hd with
  | none => exact PySem.IsiPair.NoneType_tuple (K _ _ hw)
  | bool b => exact PySem.IsiPair.bool_tuple (K _ _ hw)
  | int i t => exact PySem.IsiPair.int_tuple (K _ _ hw)
  | str x t => exact PySem.IsiPair.str_tuple (K _ _ hw)
  | tuple hm _ => exact PySem.IsiPair.tuple_tuple (V.N _ (V.mem hm)).1 rfl (K _ T.tk hw)
end
end
section
open PySem.Calls PySem.Spec
theorem index_nat {k n : Nat} (h : k < n) : seqIndex? (k : Int) n = some k := by
  unfold seqIndex?
  have h1 : ¬ ((k : Int) < 0) := by lia -abstractProof
  rw [if_neg h1]
  show (if (decide ((0 : Int) ≤ k) && decide ((k : Int) < n)) = true then some (k : Int).toNat else none) = _
  rw [if_pos (by simp [h])]
  rfl
noncomputable def HeadOf (R : List (Addr × Obj)) (v u : Value) : Prop := ∃ a ws n, v = .ref a ∧ (a, tupO ws n) ∈ R ∧ ws[0]? = some u
theorem hd_of {ad : List Addr} {R : List (Addr × Obj)} {v : Value} {x : XV} {d : Dat} (h : hdX x = some d) (D : Den ad R v x) : ∃ a ws n u, v = .ref a ∧ (a, tupO ws n) ∈ R ∧ ws[0]? = some u ∧ TIn R u d := by
  unfold hdX at h
  split at h
  · cases h
    cases D with
    | t hm hl =>
      cases hl with
      | cons h1 _ =>
        cases h1 with
        | d h1 => exact ⟨_, _, _, _, rfl, hm, rfl, h1⟩
  · cases h
theorem firstsX_cons {x : XV} {xs : List XV} {ds : List Dat} (h : firstsX (x :: xs) = some ds) : ∃ d r, hdX x = some d ∧ firstsX xs = some r ∧ ds = d :: r := by
  have h : (hdX x).bind (fun d => (firstsX xs).map (d :: ·)) = some ds := h
  obtain ⟨d, h1, h⟩ := Option.bind_eq_some_iff.mp h
  obtain ⟨r, h2, h⟩ := Option.map_eq_some_iff.mp h
  exact ⟨d, r, h1, h2, h.symm⟩
theorem firstsX_get : ∀ {xs : List XV} {ds : List Dat} {i : Nat} {x : XV}, firstsX xs = some ds → xs[i]? = some x → ∃ d, hdX x = some d := by
  intro xs
  induction xs with
  | nil => intro _ _ _ _ h; cases h
  | cons y ys ih =>
    intro ds i x h e
    obtain ⟨d, r, e1, e2, rfl⟩ := firstsX_cons h
    cases i with
    | zero => cases e; exact ⟨d, e1⟩
    | succ i => exact ih e2 e
theorem heads_tall {h₀ h : Heap} {L : Addr} {O : List (Addr × Obj)} {ad : List Addr} {R : List (Addr × Obj)} (N : News h₀ L h (O ++ R)) {vs ys : List Value} (hp : Paired (HeadOf R) vs ys) : ∀ {xs : List XV} {ds : List Dat}, DenL ad R vs xs → firstsX xs = some ds → TAll R ys ds := by
  induction hp with
  | nil => intro xs ds D h; cases D; cases h; exact .nil
  | cons h1 _ ih =>
    intro xs ds D h
    cases D with
    | cons D1 D2 =>
      obtain ⟨d, r, e1, e2, rfl⟩ := firstsX_cons h
      obtain ⟨a, ws, n, rfl, hm, hu⟩ := h1
      obtain ⟨a', ws', n', u', e, hm', hu', ht⟩ := hd_of e1 D1
      cases e
      have := Option.some.inj ((N _ (mem_r hm)).1.symm.trans (N _ (mem_r hm')).1)
      have e3 : ws = ws' := by
        have := congrArg Obj.data this
        injection this with e _
        simpa using e
      subst e3
      rw [Option.some.inj (hu.symm.trans hu')]
      exact .cons ht (ih D2 e2)
section
variable {F : Fm} {f : Nat}
theorem first_ok (S : Sx F) {e : Expr} {gs : List Comprehension} {sc : Scope} {p : Pos} {l : List (Str × XV)} {ob : List MO} {P : XV → List MO → Prop} (hw : wE F.c (f + 1) (.ListComp e gs sc p) l ob P)
    {s : Shared} {T : Sg} {Q : Value → Shared → Prop} (V : VR F T l ob) (K : KE F true T l P s Q) : wpAny F.M F.A (eval (.ListComp e gs sc p) F.env) Q F.E (T.sh s) := by
  obtain ⟨x, y, ⟨p1, k, p2, p3, p4, p5, rfl, rfl⟩, hw2⟩ := (show ∃ x y, FirstP e gs x y ∧ _ from hw)
  clear hw
  have h1 := cond_b hw2
  have hw := cond_p hw2
  have h2 := and_r h1
  have h1 := and_l h1
  have h3 := and_r h2
  have h2 := and_l h2
  have hk1 := and_l h1
  have hk2 := and_r h1
  have hkind : sc.kind = .function := beq_iff_eq.mp hk1
  have hx : sc.names.lookup x = some .local := beq_iff_eq.mp h3
  have hfree : ∀ q ∈ sc.names, q.2 ≠ .free := fun q hq => bne_iff_ne.mp (List.all_eq_true.mp h2 q hq)
  have hcell : ∀ q ∈ sc.names, q.2 ≠ .cell := fun q hq => bne_iff_ne.mp (Bool.and_eq_true_iff.mp (Bool.and_eq_true_iff.mp (List.all_eq_true.mp hk2 q hq)).1).1
  have hnd : (x == Str.ofString "__debug__") = false := beq_eq_false_iff_ne.mpr (bne_iff_ne.mp (Bool.and_eq_true_iff.mp (List.all_eq_true.mp hk2 _ (lookup_mem hx))).2)
  refine wpAny_ListComp_free (px := p4) (fun _ => true) (HeadOf T.R) (closureFor_none hfree) hcell hkind (fun q hq hl => ?_) hx (name_ok S hw V fun r z hz D => ?_) (fun _ => rfl)
  · have := (Bool.and_eq_true_iff.mp (Bool.and_eq_true_iff.mp (List.all_eq_true.mp hk2 q hq)).1).2
    rw [hl] at this
    exact beq_iff_eq.mp ((Bool.or_eq_true_iff.mp this).resolve_left (by decide))
  obtain ⟨xs, e1, hz⟩ := optX_some hz
  obtain ⟨ds, e2, hz1, hP⟩ := optX_some hz
  obtain ⟨k', hk', e1⟩ := Option.bind_eq_some_iff.mp (show Option.bind _ _ = _ from e1)
  obtain rfl := asO_eq hk'
  obtain ⟨t, rfl, ha⟩ := den_o D
  obtain ⟨t', vs, n, e3, hm, hl⟩ := rows_lsx V.rows (lsxA_eq e1)
  obtain rfl : t = t' := Option.some.inj (ha.symm.trans e3)
  have hol := (V.N _ (V.memO hm)).1
  have hls : T.h.IsList t vs.toArray := ⟨_, hol, rfl, n, rfl⟩
  have hlt : @LT.lt Nat _ t T.h.objs.size := Heap.lt_size hol
  have hne : t ≠ T.h.objs.size := Nat.ne_of_lt hlt
  refine wpAny_pyIter_list (s := T.sh s) hls ?_
  have W := Walks.list (prog := PySem.Challenge.rw_sa0370_02.row.prog) (w := F.w) (A := F.A) rfl T.h.objs.size t hne vs.toArray
  have old : ∀ (h' : Heap), (∀ (b : Addr) (o : Obj), b ∉ [T.h.objs.size] → (T.h.push { cls := .type "list_iterator", data := .fields #[.ref t, .int 0 0] }).get? b = some o → h'.get? b = some o) → ∀ b o, T.h.get? b = some o → h'.get? b = some o := fun h' hk b o e => hk b o (fun h => absurd (Heap.lt_size e) (by rw [List.mem_singleton.mp h]; exact Nat.lt_irrefl _)) (Heap.get?_push_of_some _ e)
  refine ⟨T.h.objs.size, [T.h.objs.size, t], [T.h.objs.size], vs.toArray.size, _, _, rfl, W, by rw [List.size_toArray, hl.length, sizeLine_eq]; lia -abstractProof, ⟨⟨_, Heap.get?_push_size _ rfl, rfl, rfl⟩, hls.at fun o e => Heap.get?_push_of_some _ e⟩, fun b hb => ?_, ⟨fun C i v s3 m3 E' _ _ hn hm3 hk _ => wpAny_tests_nil ⟨rfl, ⟨_, _, rfl, fun _ _ e => e⟩⟩, fun C i v s3 m3 E' _ hv _ hn hm3 hk _ => ?_⟩, fun D h' tk ys vs' hD0 hl1 hpl hlen hPv hpair hk => ?_⟩
  · show @LT.lt Nat _ b (T.h.push _).objs.size
    rw [Heap.size_push]
    rcases List.mem_cons.mp hb with rfl | hb
    · exact Nat.lt_succ_self _
    · rw [List.mem_singleton.mp hb]; exact Nat.lt_succ_of_lt hlt
  · have hv : vs[i]? = some v := by simpa using hv
    have hi : i < xs.length := by rw [← hl.length]; exact (List.getElem?_eq_some_iff.mp hv).1
    obtain ⟨v', hv', D1⟩ := hl.get (List.getElem?_eq_getElem hi)
    obtain rfl : v = v' := Option.some.inj (hv.symm.trans hv')
    obtain ⟨d, hd⟩ := firstsX_get e2 (List.getElem?_eq_getElem hi)
    obtain ⟨a, ws, n', u, rfl, hm', hu, ht⟩ := hd_of hd D1
    have hws : 0 < ws.length := (List.getElem?_eq_some_iff.mp hu).1
    have Na := V.N _ (V.mem hm')
    have N3 : News F.h₀ F.L s3.heap [(a, tupO ws n')] := fun q hq => by
      rw [List.mem_singleton.mp hq]
      exact ⟨hk a _ (fun h => absurd (Heap.lt_size Na.1) (by rw [List.mem_singleton.mp h]; exact Nat.lt_irrefl _)) (Heap.get?_push_of_some _ Na.1), Na.2⟩
    refine Subscript_ (wpAny_Name (wpAny_loadName_local (env := compEnvC sc [] C F.env) hkind (lookup_relabel_local hx) hn hm3 (wpAny_Constant_int ?_)) hnd)
    refine kba_turn (value' := .Name (Str.ofString "_") ⟨0, 0, 0, 0⟩) (fun _ => rfl) ?_
    refine item_T (h₀ := F.h₀) (L := F.L) (j := 0) (s := { s3 with toks := s3.toks + 1 }) N3 (.head _) (by decide) (by decide) ?_ hu ⟨⟨a, ws, n', rfl, hm', hu⟩, ⟨_, _, rfl, fun _ _ e => e⟩⟩ (sub_plain rfl _ _)
    exact index_nat hws
  · obtain rfl : vs' = vs := by
      refine List.ext_getElem? fun j => ?_
      by_cases hj : j < vs'.length
      · obtain ⟨v, hv⟩ : ∃ v, vs'[j]? = some v := ⟨_, List.getElem?_eq_getElem hj⟩
        exact hv.trans (by simpa using (hPv j v hv).symm)
      · rw [List.getElem?_eq_none (Nat.not_lt.mp hj), List.getElem?_eq_none]
        rw [hlen, List.size_toArray] at hj
        exact Nat.not_lt.mp hj
    rw [List.filter_eq_self.mpr fun _ _ => rfl] at hpair
    have hT := heads_tall V.N hpair hl e2
    obtain ⟨m, hD⟩ := hpl
    have hk' := old h' hk
    have neD : ∀ {b o}, T.h.get? b = some o → b ≠ D := fun e h => by
      have : (T.h.push { cls := .type "list_iterator", data := .fields #[.ref t, .int 0 0] }).get? D = none := hD0
      rw [← h, Heap.get?_push_of_some _ e] at this; cases this
    have hLD : F.L ≠ D := by obtain ⟨o, _, _, ho, _⟩ := V.fr.ns; exact neD ho
    have hD1 : F.h₀.get? D = none := by
      cases q : F.h₀.get? D with
      | none => rfl
      | some o => exact absurd rfl (neD (V.fr.keep D o q))
    exact K ⟨h', tk, T.m, T.ad ++ [D], T.O ++ [(D, listOf ys.toList.toArray m)], T.R⟩ _ _ _ hP (V.newM (.lst hT .nil) (V.fr.keeps hk') (fun q hq => (List.mem_cons.mp hq).elim (fun e => by rw [e]; exact ⟨hD, hLD.symm, hD1⟩) fun hq => ⟨hk' _ _ (V.N q hq).1, (V.N q hq).2⟩) fun q hq => neD (V.N q hq).1) grow_new (den_new V)
end
end
section
open PySem.Calls PySem.Spec
section
variable {F : Fm} {f : Nat}
theorem callG_ok (S : Sx F) {G : XG} {xs : List XV} {vs : List Value} {l : List (Str × XV)} {ob : List MO} {P : XV → List MO → Prop} (hw : callX F.c G xs ob P) {s : Shared} {T : Sg} {Q : Value → Shared → Prop} (V : VR F T l ob) (D : DenL T.ad T.R vs xs) (K : KE F false T l P s Q) :
    wpAny F.M F.A (call G.val vs) Q F.E (T.sh s) := by
  cases G with
  | own a => exact own_ok S hw V D K
  | len =>
    obtain ⟨x, v, rfl, D1, hw⟩ := oneL_of (show optX (oneL xs) _ from hw) D
    exact lenX_ok hw V D1 fun i t tk hw => K (T.tok tk) _ _ _ hw V.tok .refl (.d (.int _ _))
  | ord =>
    obtain ⟨x, v, rfl, D1, hw⟩ := oneL_of (show optX (oneL xs) _ from hw) D
    obtain ⟨_, t, rfl, k, rfl, hw⟩ := asS_of hw D1
    exact PySem.P.ord_of_char (K (T.tok _) _ _ _ hw V.tok .refl (.d (.int _ _)))
  | isi =>
    obtain ⟨p, v, u, rfl, D1, D2, hw⟩ := twoL_of (show optX (twoL xs) _ from hw) D
    exact isi_ok hw V D1 D2 fun b tk hw => K (T.tok tk) _ _ _ hw V.tok .refl (.d (.bool _))
  | list => exact listX_ok hw V D fun T' r z ob' hw V' G D => K T' r z ob' hw V' G.no D
  | min =>
    obtain ⟨p, v, u, rfl, D1, D2, hw⟩ := twoL_of (show optX (twoL xs) _ from hw) D
    obtain ⟨a, b, t1, t2, rfl, rfl, hw⟩ := two_int hw D1 D2
    refine min_two_N rfl V.fr V.N fun h' tk F' N' => ?_
    have K' := fun t => K ⟨h', tk, T.m, T.ad, T.O, T.R⟩ (.int (if b < a then b else a) t) _ _ hw (V.same F' N') .refl (.d (.int _ _))
    by_cases hab : b < a
    · rw [if_pos hab] at K' ⊢; exact K' _
    · rw [if_neg hab] at K' ⊢; exact K' _
theorem methM_ok {M : XM} (hn : ∀ f, M ≠ .own f) {x : XV} {u : Value} {xs : List XV} {vs : List Value} {l : List (Str × XV)} {ob : List MO} {P : XV → List MO → Prop} (hx : xs ≠ []) (hw : mcallX F.c x M xs ob P) {s : Shared} {T : Sg} {Q : Value → Shared → Prop} (V : VR F T l ob) (Dx : Den T.ad T.R u x) (D : DenL T.ad T.R vs xs) (K : KE F false T l P s Q) :
    wpAny F.M F.A (call M.val (u :: vs)) Q F.E (T.sh s) := by
  cases M with
  | own f => exact (hn f rfl).elim
  | app => exact app_ok hw V Dx D fun T' r z ob' hw V' G D => K T' r z ob' hw V' G.no D
  | ext => exact ext_ok hw V Dx D fun T' r z ob' hw V' G D => K T' r z ob' hw V' G.no D
  | pop => exact (hx (List.isEmpty_iff.mp (cond_t (show cond _ _ _ from hw)).1)).elim
theorem wL_nil {c : Cfg} {f : Nat} {l : List (Str × XV)} {ob : List MO} {P : List XV → List MO → Prop} (h : wL c f [] l ob P) : P [] ob := by
  cases f with
  | zero => exact h.elim
  | succ f => exact h
theorem ne_of_len {vs : List Value} {xs : List XV} {ad : List Addr} {R : List (Addr × Obj)} {n : Nat} (D : DenL ad R vs xs) (h : vs.length = n + 1) : xs ≠ [] := fun e => by subst e; cases D; cases h
theorem callV_ok (S : Sx F) {v : Value} {first : List Value} (hv : keepIn (heap F.w.params) v = true ∨ (∃ n, v = .builtin n) ∨ ∃ n, v = .type n ∧ first = []) {p : Pos} {e : Expr} {r : List Expr} (h : (e :: r).all notStar = true) {s : Shared} {Q : Value → Shared → Prop}
    (K : wpAny F.M F.A (spliced (backTo p (starEach (e :: r) F.env))) (fun vs s1 => (heap F.w.params).In s1.heap ∧ wpAny F.M F.A (call v (first ++ vs)) Q F.E s1) F.E s) : wpAny F.M F.A (callWith p v first (backTo p (starEach (e :: r) F.env)) []) Q F.E s := by
  have h1 := and_l h
  have h2 := and_r h
  rcases hv with hv | ⟨n, rfl⟩ | ⟨n, rfl, rfl⟩
  · exact callWith_K S.X hv K (star_cons h1 r _) (no_star h2)
  · exact callWith_method1 (wpAny_mono K (fun _ _ q => q.2) fun _ _ q => q) (star_cons h1 r _) (no_star h2)
  · exact PyProof.Rows.callWith_type1 (wpAny_mono K (fun _ _ q => q.2) fun _ _ q => q) (star_cons h1 r _) (no_star h2)
theorem call_of (S : Sx F) (H : SndE F f) {g : Expr} {as : List Expr} {kw : List Keyword} {p : Pos} {l : List (Str × XV)} {ob : List MO} {P : XV → List MO → Prop} (hw : wE F.c (f + 1) (.Call g as kw p) l ob P)
    {s : Shared} {T : Sg} {Q : Value → Shared → Prop} (V : VR F T l ob) (K : KE F false T l P s Q) : wpAny F.M F.A (eval (.Call g as kw p) F.env) Q F.E (T.sh s) := by
  cases kw with
  | cons _ _ => cases g <;> exact (show False from hw).elim
  | nil =>
  cases g with
  | Attribute o nm ap =>
    have h0 := cond_b hw
    have hw := cond_p hw
    have hna := and_r h0
    have h0 := and_l h0
    have hl := and_r hna
    have hna := and_l hna
    have hln := and_r hl
    have hl := and_l hl
    obtain ⟨pl, he⟩ := meth_eq hna nm F.env h0 hl (Nat.blt_eq.mp hln)
    refine MethodCall_ (pl := pl) (H.e hw V fun T1 v x ob1 hw V1 G1 D1 => ?_) he
    obtain ⟨M, hm, hw⟩ := optX_some hw
    have h2 := cond_b hw
    have hw := cond_p hw
    have hk := (methX_ok (prog := PySem.Challenge.rw_sa0370_02.row.prog) (A := F.A) (E := F.E) (s := s) (pl := pl) (Q := fun _ _ => True) S.X hm V1 D1 trivial).1
    refine (methX_ok S.X hm V1 D1 ?_).2
    cases as with
    | nil =>
      have hw : mcallX F.c x M [] ob1 P := wL_nil hw
      cases M with
      | own fa => exact (show False from hw).elim
      | app => exact (show False from hw).elim
      | ext => exact (show False from hw).elim
      | pop => exact callWith_method0 (pop_ok (show popX x ob1 P from hw) V1 D1 fun T2 r z ob' hz V3 G2 hy => K T2 r z ob' hz V3 (G1.any G2) hy)
    | cons e r =>
      refine callV_ok S (v := M.val) (first := [v]) ?_ h0 (H.l hw V1 fun T2 vs xs ob2 hw V2 G2 D2 hl => ⟨S.X.keeps V2.fr.keep, ?_⟩)
      · cases M with
        | own fa => exact .inl (hk fa rfl)
        | _ => exact .inr (.inl ⟨_, rfl⟩)
      · have G3 := G1.any G2
        have K2 : KE F false T2 l P s Q := fun T3 r z ob3 hw V3 G4 D4 => K T3 r z ob3 hw V3 (G3.any G4) D4
        cases M with
        | own fa => exact own_ok S (cond_t (show cond _ _ _ from hw)).2 V2 (.cons (den_grow D1 G2 h2) D2) K2
        | _ => exact methM_ok (fun _ e => by cases e) (ne_of_len D2 hl) hw V2 (den_grow D1 G2 h2) D2 K2
  | Name x xp =>
    have h00 := cond_b hw
    have hw := cond_p hw
    refine Call_ (name_ok S (show nameX F.c x l ob _ from hw) V fun v z hw D => ?_)
    obtain ⟨G, hG, hw1⟩ := optX_some hw
    have hc2 := cond_b hw1
    have hw2 := cond_p hw1
    clear hw
    have hw := hw2
    clear hw1 hw2
    obtain ⟨rfl, hfn⟩ := kindG_val hG
    obtain rfl := den_g D
    cases as with
    | nil =>
      have hw : callX F.c G [] ob P := wL_nil hw
      cases G with
      | own fa => exact callWith_K0 (S.X.keeps V.fr.keep) (List.all_eq_true.mp (fns_ok F.w.params) _ (contains_mem (hfn _ rfl))) (own_ok S hw V .nil K)
      | _ => cases hc2
    | cons e r =>
      refine callV_ok S (v := G.val) (first := []) ?_ h00 (H.l hw V fun T2 vs xs ob2 hw V2 G2 D2 hl => ⟨S.X.keeps V2.fr.keep, callG_ok S hw V2 D2 fun T3 r z ob3 hw V3 G3 D3 => K T3 r z ob3 hw V3 (G2.any G3) D3⟩)
      cases G with
      | own fa => exact .inl (List.all_eq_true.mp (fns_ok F.w.params) _ (contains_mem (hfn _ rfl)))
      | list => exact .inr (.inr ⟨_, rfl, rfl⟩)
      | _ => exact .inr (.inl ⟨_, rfl⟩)
  | _ => exact (show False from hw).elim
theorem item_of (H : SndE F f) {x i : Expr} {p : Pos} {l : List (Str × XV)} {ob : List MO} {P : XV → List MO → Prop} (hw : wE F.c (f + 1) (.Subscript x i p) l ob P)
    {s : Shared} {T : Sg} {Q : Value → Shared → Prop} (V : VR F T l ob) (K : KE F false T l P s Q) : wpAny F.M F.A (eval (.Subscript x i p) F.env) Q F.E (T.sh s) := by
  have plain : (wE F.c f x l ob fun x ob1 => cond (notSl i && (stb F.c.un x || still i)) (wE F.c f i l ob1 fun y ob2 => itemX x y ob2 fun v => P v ob2) False) → wpAny F.M F.A (eval (.Subscript x i p) F.env) Q F.E (T.sh s) := fun hw => by
    refine Subscript_ (H.e hw V fun T1 v x1 ob1 hw V1 G1 D1 => ?_)
    have h2 := cond_b hw
    have hw := cond_p hw
    have h1 := and_l h2
    have h2 := and_r h2
    refine H.e hw V1 fun T2 v2 x2 ob2 hw V2 G2 D2 => ?_
    exact itemX_ok h1 hw V2 (den_grow D1 G2 h2) D2 fun tk r z hw D => K (T2.tok tk) r z ob2 hw V2.tok (G1.any G2) D
  cases i with
  | Slice lo hi st sp =>
    cases st with
    | none =>
      refine Subscript_ (H.e (show wE F.c f x l ob _ from hw) V fun T1 v x1 ob1 hw V1 G1 D1 => ?_)
      refine wpAny_Slice (H.p (show wP F.c f lo l ob1 _ from hw) V1 fun T2 v2 x2 ob2 hw V2 G2 D2 => ?_)
      refine H.p (show wP F.c f hi l ob2 _ from hw) V2 fun T3 v3 x3 ob3 hw V3 G3 D3 => ?_
      refine evalPart_none_step ?_
      have h2 := cond_b hw
      have hw := cond_p hw
      have G4 : Gr F (stillO lo && stillO hi) T1 T3 := G2.trans G3 (fun h => (Bool.and_eq_true_iff.mp h).1) (fun h => (Bool.and_eq_true_iff.mp h).2)
      have h3 : (stb F.c.un x1 || (stillO lo && stillO hi)) = true := by
        cases lo <;> cases hi <;> exact h2
      exact sliceX_ok hw V3 (den_grow D1 G4 h3) D2 D3 fun T5 r z ob' hz V5 G5 D5 => K T5 r z ob' hz V5 ((G1.any G4).any G5) D5
    | some e => exact plain hw
  | _ => exact plain hw
theorem expr_of (S : Sx F) (H : SndE F f) : SE F (f + 1) := by
  intro e l ob P hw s T Q V K
  cases e with
  | Name x p => exact name_ok S hw V fun r z hz D => K T r z ob hz V .refl D
  | Constant k kk p =>
    cases k with
    | none => exact wpAny_Constant_none (K T _ _ _ hw V .refl (.d .none))
    | bool b => exact PyProof.Rows.Constant_bool (K T _ _ _ hw V .refl (.d (.bool _)))
    | int i => exact wpAny_Constant_int (K (T.tok _) _ _ _ hw V.tok .refl (.d (.int _ _)))
    | str x => exact PySem.Calls.Constant_str (K (T.tok _) _ _ _ hw V.tok .refl (.d (.str _ _)))
    | _ => exact (show False from hw).elim
  | Tuple es k p =>
    have h1 := cond_b hw
    have hw := cond_p hw
    refine Tuple_ (H.l hw V fun T1 vs xs ob1 hw V1 G1 D1 hl => ?_)
    exact kup_newTuple (s := T1.sh s) V1.fr V1.N (fun D h' F' N' _ => K ⟨h', T1.tk, T1.m, T1.ad, T1.O, _⟩ _ _ ob1 hw (V1.tup F' N') (G1.any grow_tup) (den_mkT (.head _) (D1.mono (fun _ _ h => h) tsub_one))) (by rw [hl, sizeLine_eq]; have := Nat.le_of_ble_eq_true h1; lia -abstractProof)
  | List es p =>
    have h1 := cond_b hw
    have hw := cond_p hw
    refine List_ (H.l hw V fun T1 vs xs ob1 hw V1 G1 D1 hl => ?_)
    obtain ⟨ds, hd, hw⟩ := optX_some hw
    exact newList_K (s := T1.sh s) V1.fr V1.N (fun D h' F' N' l1 => K ⟨h', T1.tk, T1.m, T1.ad ++ [D], T1.O ++ [(D, _)], T1.R⟩ _ _ _ hw (V1.newL (allD_tall D1 hd) F' N' l1) (G1.any grow_new) (den_new V1)) (by rw [hl, sizeLine_eq]; have := Nat.le_of_ble_eq_true h1; lia -abstractProof)
  | BinOp x op y p =>
    refine wpAny_BinOp (H.e (show wE F.c f x l ob _ from hw) V fun T1 v x ob1 hw V1 G1 D1 => ?_)
    have h2 := cond_b hw
    have hw := cond_p hw
    refine H.e hw V1 fun T2 v2 x2 ob2 hw V2 G2 D2 => ?_
    exact binOX_ok hw V2 (den_grow D1 G2 h2) D2 fun T3 r z ob3 hw V3 G3 D3 => K T3 _ _ _ hw V3 ((G1.any G2).any G3) D3
  | UnaryOp op x p =>
    refine UnaryOp_ (H.e (show wE F.c f x l ob _ from hw) V fun T1 v x ob1 hw V1 G1 D1 => ?_)
    exact unX_ok hw D1 fun tk r z hw D => K (T1.tok tk) _ _ _ hw V1.tok G1.no D
  | BoolOp op es p => exact H.o hw V K
  | Compare x ops ys p =>
    cases ops with
    | nil => exact (show False from hw).elim
    | cons op r =>
    cases r with
    | cons _ _ => exact (show False from hw).elim
    | nil =>
    cases ys with
    | nil => exact (show False from hw).elim
    | cons y r =>
    cases r with
    | cons _ _ => exact (show False from hw).elim
    | nil =>
      have hn := cond_b hw
      have hw := cond_p hw
      exact wpAny_Compare1 (cmp_of (P := fun t ob => P (.d (.bool t)) ob) S H.e hw V fun T2 t ob2 hw V2 G2 => K T2 _ _ _ hw V2 G2 (.d (.bool _))) (marks_of hn op)
  | IfExp t x y p =>
    refine IfExp_ (H.b (show wB F.c f t l ob _ from hw) V fun T1 t ob1 hw V1 G1 => ?_)
    cases t with
    | true => exact H.e hw V1 fun T2 v2 x2 ob2 hw V2 G2 D2 => K T2 _ _ _ hw V2 (G1.any G2) D2
    | false => exact H.e hw V1 fun T2 v2 x2 ob2 hw V2 G2 D2 => K T2 _ _ _ hw V2 (G1.any G2) D2
  | Attribute o nm p =>
    cases o with
    | Name x xp =>
      refine Attribute_Name_ (name_ok S (show nameX F.c x l ob _ from hw) V fun r z hw D => ?_)
      exact attrX_ok S.X hw V D fun tk r z hw D => K (T.tok tk) _ _ _ hw V.tok .refl D
    | _ => exact (show False from hw).elim
  | Subscript x i p => exact item_of H hw V K
  | Call g as kw p => exact call_of S H hw V K
  | ListComp e gs sc p => exact first_ok S hw V fun T' r z ob' hz V' G D => K T' r z ob' hz V' G.no D
  | _ => exact (show False from hw).elim
theorem snd_E (S : Sx F) (f : Nat) : SndE F f := by
  induction f with
  | zero => exact ⟨fun h => (show False from h).elim, fun h => (show False from h).elim, fun h => (show False from h).elim, fun h => (show False from h).elim, fun h => (show False from h).elim, fun h => (show False from h).elim, fun h => (show False from h).elim⟩
  | succ f H => exact ⟨expr_of S H, args_of H.e H.l, part_of H.e, bool_of H.e H.o, test_of S H.e H.b H.bs H.ch, tests_of H.b H.bs, chain_of S H.e H.ch⟩
end
end
section
set_option genSizeOf false
set_option genInjectivity false
open PySem.Calls PySem.Spec
theorem swap_ok {c : Cfg} {env : Env} (hb : env.blockKind = .function) (hnm : ∀ x, env.kindOf x = c.names.lookup x) {t v : Expr} (ht : ∃ ts k p, t = .Tuple ts k p) {r : Option (List Str)} (h : swapN c t v = some r) : swappedStores [t] v env = pure r ∧ ∀ ns, r = some ns → ∀ x ∈ ns, c.names.lookup x = some .local := by
  obtain ⟨ts, k1, p1, rfl⟩ := ht
  unfold swapN at h
  split at h
  · rename_i ts' _ _ vs k2 p2 e
    cases e
    unfold swappedStores
    simp only [hb, hnm]
    split at h
    · cases h
      rename_i h1
      exact ⟨if_pos (by simpa using h1), fun _ h => nomatch h⟩
    · rename_i h1
      split at h
      · cases h
        rename_i h2
        exact ⟨(if_neg (by simpa using h1)).trans (if_pos h2), fun _ h => nomatch h⟩
      · rename_i h2
        dsimp only at h
        split at h
        · cases h
          rename_i h3
          exact ⟨(if_neg (by simpa using h1)).trans ((if_neg h2).trans (if_pos h3)), fun _ h => nomatch h⟩
        · rename_i h3
          split at h
          · cases h
            rename_i h4
            exact ⟨(if_neg (by simpa using h1)).trans ((if_neg h2).trans ((if_neg h3).trans (if_pos h4))), fun _ h => nomatch h⟩
          · rename_i h4
            split at h
            · cases h
            · rename_i h5
              cases h
              refine ⟨(if_neg (by simpa using h1)).trans ((if_neg h2).trans ((if_neg h3).trans ((if_neg h4).trans (if_neg h5)))), fun ns e x hx => ?_⟩
              cases e
              obtain ⟨y, _, hy⟩ := List.mem_filterMap.mp hx
              split at hy
              · split at hy
                · rename_i hz
                  cases hy
                  exact beq_iff_eq.mp (Bool.and_eq_true_iff.mp hz).1
                · cases hy
              · cases hy
  · rename_i va _ _ hno
    cases h
    refine ⟨?_, fun _ h => nomatch h⟩
    cases va <;> first | rfl | exact (hno _ _ _ _ _ _ rfl rfl).elim
theorem comp_ok {v : Expr} (h : notComp v = true) (t : Option Expr) (n : Nat) (env : Env) : swapsWith v t n env = pure false := by
  cases v <;> first | rfl | cases h
section
variable {F : Fm} {f : Nat}
structure Sy (F : Fm) : Prop extends Sx F where
  top : F.env = envX F.cn F.cs F.L F.a F.ccd F.cl
  cm0 : F.cm = none
  pe : PassesOwn F.M F.A F.env F.E
theorem Rd.put {m : Str → Option Value} {R : List (Addr × Obj)} {x y : Str} {u u' : Value} (hc : F.cm = none) (h : Rd F m R y u') (e : y ≠ x) : Rd F (fun z => if z = x then some u else m z) R y u' := by
  unfold Rd at h ⊢
  rw [hc] at h ⊢
  revert h
  cases isCell (F.c.names.lookup y) with
  | true => exact id
  | false => exact fun h => (if_neg e).trans h
theorem Rd.drop {m : Str → Option Value} {R R' : List (Addr × Obj)} {x : Str} {u : Value} (hc : F.cm = none) (h : Rd F m R x u) : Rd F m R' x u := by
  unfold Rd at h ⊢
  rw [hc] at h ⊢
  exact h
theorem loc_put (hc : F.cm = none) {m : Str → Option Value} {ad : List Addr} {R : List (Addr × Obj)} {l : List (Str × XV)} {un : Bool} (h : ∀ x v, l.lookup x = some v → ∃ u, Rd F m R x u ∧ Den ad R u v ∧ stb un v = true) {x : Str} (hx : F.c.names.lookup x = some .local) {u : Value} {v : XV} (D : Den ad R u v) (hv : stb un v = true) :
    ∀ y z, ((x, v) :: l).lookup y = some z → ∃ u', Rd F (fun y => if y = x then some u else m y) R y u' ∧ Den ad R u' z ∧ stb un z = true := by
  intro y z hy
  rw [List.lookup_cons] at hy
  by_cases e : y = x
  · subst e
    rw [beq_self_eq_true] at hy
    cases hy
    exact ⟨u, (Rd.top hx hc).mpr (if_pos rfl), D, hv⟩
  · rw [beq_eq_false_iff_ne.mpr e] at hy
    obtain ⟨u', a, b⟩ := h y z hy
    exact ⟨u', a.put hc e, b⟩
theorem VR.put (hc : F.cm = none) {T : Sg} {l : List (Str × XV)} {ob : List MO} (V : VR F T l ob) {h' : Heap} {tk : Nat} {x : Str} (hx : F.c.names.lookup x = some .local) {u : Value} {v : XV} (F' : Fr F.h₀ F.L h' (fun y => if y = x then some u else T.m y)) (N' : News F.h₀ F.L h' (T.O ++ T.R)) (D : Den T.ad T.R u v) (hv : stb F.c.un v = true) :
    VR F ⟨h', tk, fun y => if y = x then some u else T.m y, T.ad, T.O, T.R⟩ ((x, v) :: l) ob := by
  exact ⟨F', N', V.rows, V.nd, V.off, (fun C h => nomatch hc.symm.trans h), loc_put hc V.loc hx D hv⟩
noncomputable abbrev KA (F : Fm) (T : Sg) (P : List (Str × XV) → List MO → Prop) (s : Shared) (Q : Unit → Shared → Prop) : Prop := ∀ (T' : Sg) l' ob', P l' ob' → VR F T' l' ob' → T'.ad = T.ad → T'.R = T.R → Q () (T'.sh s)
theorem store_ok (S : Sy F) {x : Str} {v : XV} {u : Value} {l : List (Str × XV)} {ob : List MO} {P : List (Str × XV) → List MO → Prop} {s : Shared} {T : Sg} {Q : Unit → Shared → Prop}
    (hn : F.c.names.lookup x = some .local) (hv : stb F.c.un v = true) (hw : P ((x, v) :: l) ob) (V : VR F T l ob) (D : Den T.ad T.R u v) (K : KA F T P s Q) : wpAny F.M F.A (storeName F.env x u) Q F.E (T.sh s) := by
  have hk := S.nm x
  rw [S.top] at hk ⊢
  exact storeX_L V.fr V.N (fun h' F' N' => K ⟨h', _, _, T.ad, T.O, T.R⟩ _ _ hw (V.put S.cm0 hn F' N' D hv) rfl rfl) S.hk (hk.trans hn)
theorem news_upd {h₀ h h' : Heap} {L d : Addr} {o o' : Obj} {O O' : List (Addr × Obj)} (N : News h₀ L h O) (U : Upd d o o' O O') (hs : Heap.SameBut d h h') (e : h'.get? d = some o') : News h₀ L h' O' := by
  induction U with
  | head k => exact fun p hp => (List.mem_cons.mp hp).elim (fun q => q ▸ ⟨e, (N _ (.head _)).2⟩) fun hp => ⟨hs.extBut _ _ (k p hp) (N p (.tail _ hp)).1, (N p (.tail _ hp)).2⟩
  | tail k _ ih => exact fun p hp => (List.mem_cons.mp hp).elim (fun q => q ▸ ⟨hs.extBut _ _ k (N _ (.head _)).1, (N _ (.head _)).2⟩) fun hp => ih (fun q hq => N q (.tail _ hq)) p hp
theorem storeC_ok (S : Sy F) {x : Str} {v : XV} {u : Value} {l : List (Str × XV)} {ob : List MO} {P : List (Str × XV) → List MO → Prop} {s : Shared} {T : Sg} {Q : Unit → Shared → Prop}
    (hn : F.c.names.lookup x = some .cell) (hw : onK x l ob fun k => P l (ob.set k (.cell (some v)))) (V : VR F T l ob) (D : Den T.ad T.R u v) (K : KA F T P s Q) : wpAny F.M F.A (storeName F.env x u) Q F.E (T.sh s) := by
  obtain ⟨k, a, o, _, hc, _, H, hw⟩ := onK_of (by rw [hn]; rfl) hw V
  have hm := V.N _ (V.memO H.mem)
  refine wpAny_storeName_cell S.ek ((S.nm x).trans hn) hc ⟨o, hm.1, H.dat.choose_spec⟩ fun h' hv hs => ?_
  obtain ⟨o', ho, hd⟩ := hv
  obtain ⟨O', uo, r'⟩ := H.put o' u v hd D
  have N' : News F.h₀ F.L h' (O' ++ T.R) := news_upd V.N (upd_left uo (off_key V H.mem)) hs ho
  exact K ⟨h', T.tk, T.m, T.ad, O', T.R⟩ _ _ hw (V.upd (V.fr.change hs hm.2.1 hm.2.2) N' (keys_upd uo) r') rfl rfl
theorem stb_parts {un : Bool} {x : XV} {xs : List XV} (e : partsX x = some xs) (h : stb un x = true) : ∀ y ∈ xs, stb un y = true := by
  cases x with
  | d d =>
    cases d with
    | tuple l =>
      cases e
      intro y hy
      obtain ⟨d, _, rfl⟩ := List.mem_map.mp hy
      rfl
    | _ => cases e
  | t ys =>
    cases e
    intro y hy
    have := List.all_eq_true.mp (show List.all _ (stb1 un) = true from h) y hy
    cases y <;> first | exact this | cases this
  | _ => cases e
noncomputable def SA (F : Fm) (f : Nat) : Prop := ∀ {t : Expr} {v : XV} {u : Value} {l : List (Str × XV)} {ob : List MO} {P : List (Str × XV) → List MO → Prop}, wA F.c f t v l ob P → ∀ {s : Shared} {T : Sg} {Q : Unit → Shared → Prop}, VR F T l ob → Den T.ad T.R u v → KA F T P s Q →
  wpAny F.M F.A (assign t F.env u) Q F.E (T.sh s)
noncomputable def SAs (F : Fm) (f : Nat) : Prop := ∀ {ts : List Expr} {vs : List XV} {us : List Value} {l : List (Str × XV)} {ob : List MO} {P : List (Str × XV) → List MO → Prop}, wAs F.c f ts vs l ob P → ts.all notStar = true → ∀ {s : Shared} {T : Sg} {Q : Unit → Shared → Prop}, VR F T l ob → DenL T.ad T.R us vs → KA F T P s Q →
  wpAny F.M F.A (assignInOrder ((assignEach ts F.env).map fun x => x.2) us) Q F.E (T.sh s)
theorem each_cons {e : Expr} (h : notStar e = true) (r : List Expr) (env : Env) : assignEach (e :: r) env = (false, assign e env) :: assignEach r env := by
  cases e <;> first | rfl | cases h
theorem each_len {es : List Expr} {env : Env} (h : es.all notStar = true) : (assignEach es env).length = es.length ∧ List.findIdx? (fun x => x.1) (assignEach es env) = none := by
  induction es with
  | nil => exact ⟨rfl, rfl⟩
  | cons e r ih =>
    have h1 := and_l h
    have h2 := and_r h
    rw [each_cons h1]
    obtain ⟨i1, i2⟩ := ih h2
    refine ⟨congrArg (· + 1) i1, ?_⟩
    rw [List.findIdx?_cons]
    show Option.map _ _ = none
    rw [i2]
    rfl
theorem snd_A (S : Sy F) (f : Nat) : SA F f ∧ SAs F f := by
  induction f with
  | zero => exact ⟨fun h => (show False from h).elim, fun h => (show False from h).elim⟩
  | succ f ih =>
    obtain ⟨ia, ias⟩ := ih
    constructor
    · intro t v u l ob P hw s T Q V D K
      cases t with
      | Name x p =>
        have h2 := cond_b hw
        have hw := cond_p hw
        refine PyProof.Rows.assign_Name ?_
        cases h1 : F.c.names.lookup x == some .local with
        | true =>
          rw [h1] at hw
          exact store_ok S (beq_iff_eq.mp h1) h2 hw V D K
        | false =>
          rw [h1] at hw
          have h3 := cond_b hw
          have hw := cond_p hw
          exact storeC_ok S (beq_iff_eq.mp h3) hw V D K
      | Tuple ts k p =>
        obtain ⟨xs, hx, hw⟩ := optX_some (show optX _ _ from hw)
        obtain ⟨h, hl, hw⟩ := cond_t hw
        have h1 := and_l h
        have h2 := and_r h
        obtain ⟨b, vs, n, rfl, hm, Dv⟩ := den_parts hx D
        obtain ⟨e1, e2⟩ := each_len (env := F.env) h2
        exact unpackN_ (s := T.sh s) (items := vs.toArray) V.fr V.N ⟨_, (V.N _ (V.mem hm)).1, rfl, n, rfl⟩ rfl (by rw [e1, hl, List.size_toArray, Dv.length]) e2 fun h' F' N' => ias (T := ⟨h', _, T.m, T.ad, T.O, T.R⟩) hw h2 (V.same F' N') Dv K
      | _ => exact (show False from hw).elim
    · intro ts vs us l ob P hw hs s T Q V D K
      cases ts with
      | nil => exact assignInOrder_nil (K T l ob hw V rfl rfl)
      | cons t ts =>
        have h1 := and_l hs
        have h2 := and_r hs
        rw [each_cons h1]
        cases D with
        | nil => exact (show False from hw).elim
        | cons D1 D2 =>
          exact assignInOrder_cons (ia (show wA F.c f t _ l ob _ from hw) V D1 fun T1 l' ob' hw V' e1 e2 => ias hw h2 V' (by rw [e1, e2]; exact D2) fun T2 l2 ob2 hw V2 e3 e4 => K T2 l2 ob2 hw V2 (e3.trans e1) (e4.trans e2))
theorem names_ok (S : Sy F) {ob : List MO} {ns : List Str} : ∀ {vs : List XV} {us : List Value} {l : List (Str × XV)} {P : List (Str × XV) → Prop}, wNs F.c ns vs l P → (∀ x ∈ ns, F.c.names.lookup x = some .local) → (∀ x ∈ vs, stb F.c.un x = true) →
    ∀ {s : Shared} {T : Sg} {Q : Unit → Shared → Prop}, VR F T l ob → DenL T.ad T.R us vs → KA F T (fun l' ob' => P l' ∧ ob' = ob) s Q → wpAny F.M F.A (assignInOrder (ns.map fun n => bindName F.env n) us) Q F.E (T.sh s) := by
  induction ns with
  | nil => intro vs us l P hw _ _ s T Q V D K; exact assignInOrder_nil (K T l ob ⟨hw, rfl⟩ V rfl rfl)
  | cons x ns ih =>
    intro vs us l P hw h1 h2 s T Q V D K
    cases D with
    | nil => exact (show False from hw).elim
    | cons D1 D2 =>
      refine assignInOrder_cons (bindName_ (store_ok (P := fun l ob' => wNs F.c ns _ l P ∧ ob' = ob) S (h1 _ (.head _)) (h2 _ (.head _)) ⟨hw, rfl⟩ V D1 ?_))
      rintro T1 l' _ ⟨hw, rfl⟩ V' e1 e2
      exact ih hw (fun y hy => h1 y (.tail _ hy)) (fun y hy => h2 y (.tail _ hy)) V' (by rw [e1, e2]; exact D2) fun T2 l2 ob2 hw V2 e3 e4 => K T2 l2 ob2 hw V2 (e3.trans e1) (e4.trans e2)
theorem DenL.append {ad : List Addr} {R : List (Addr × Obj)} {vs ws : List Value} {xs ys : List XV} (h : DenL ad R vs xs) (k : DenL ad R ws ys) : DenL ad R (vs ++ ws) (xs ++ ys) := h.ind (p := fun vs xs => DenL ad R (vs ++ ws) (xs ++ ys)) k fun _ _ _ _ d r => .cons d r
theorem DenL.reverse {ad : List Addr} {R : List (Addr × Obj)} {vs : List Value} {xs : List XV} (h : DenL ad R vs xs) : DenL ad R vs.reverse xs.reverse :=
  h.ind (p := fun vs xs => DenL ad R vs.reverse xs.reverse) .nil fun _ _ _ _ d r => by
    rw [List.reverse_cons, List.reverse_cons]
    exact r.append (.cons d .nil)
inductive FlowD (ad : List Addr) (R : List (Addr × Obj)) : Flow → XF → Prop
  | next : FlowD ad R .next .next
  | ret {v : Value} {x : XV} : Den ad R v x → FlowD ad R (.ret v) (.ret x)
noncomputable abbrev KS (F : Fm) (T : Sg) (P : XF → List (Str × XV) → List MO → Prop) (s : Shared) (Q : Flow → Shared → Prop) : Prop :=
  ∀ T' fl xf l' ob', P xf l' ob' → VR F T' l' ob' → Gr F false T T' → FlowD T'.ad T'.R fl xf → Q fl (T'.sh s)
theorem KS.on {T T1 : Sg} {P : XF → List (Str × XV) → List MO → Prop} {s : Shared} {Q : Flow → Shared → Prop} {q : Bool} (K : KS F T P s Q) (G : Gr F q T T1) : KS F T1 P s Q := fun T2 fl xf l2 ob2 hw V2 G2 D2 => K T2 fl xf l2 ob2 hw V2 (G.any G2) D2
noncomputable def SS (F : Fm) (f : Nat) : Prop := ∀ {st : Stmt} {l : List (Str × XV)} {ob : List MO} {P : XF → List (Str × XV) → List MO → Prop}, wS F.c f st l ob P → ∀ {s : Shared} {T : Sg} {Q : Flow → Shared → Prop}, VR F T l ob → KS F T P s Q → wpAny F.M F.A (exec st F.env) Q F.E (T.sh s)
noncomputable def SSs (F : Fm) (f : Nat) : Prop := ∀ {ss : List Stmt} {l : List (Str × XV)} {ob : List MO} {P : XF → List (Str × XV) → List MO → Prop}, wSs F.c f ss l ob P → ∀ {s : Shared} {T : Sg} {Q : Flow → Shared → Prop}, VR F T l ob → KS F T P s Q → wpAny F.M F.A (execs ss F.env) Q F.E (T.sh s)
theorem stmts_of (is : SS F f) (iss : SSs F f) : SSs F (f + 1) := by
  intro ss l ob P hw s T Q V K
  cases ss with
  | nil => exact wpAny_execs_nil (K T _ _ l ob hw V .refl .next)
  | cons st r =>
    refine wpAny_execs_cons (is (show wS F.c f st l ob _ from hw) V fun T1 fl xf l1 ob1 hw V1 G1 D1 => ?_)
    cases D1 with
    | next => exact iss (show wSs F.c f r l1 ob1 P from hw) V1 (K.on G1)
    | ret D => exact K T1 _ _ _ _ hw V1 G1 (.ret D)
theorem VR.aside {h : Heap} {tk : Nat} {m : Str → Option Value} {ad : List Addr} {O R X : List (Addr × Obj)} {l : List (Str × XV)} {ob : List MO} (V : VR F ⟨h, tk, m, ad, O, R⟩ l ob) (N : News F.h₀ F.L h (X ++ (O ++ R))) (ho : OwnOff X (keys O)) : VR F ⟨h, tk, m, ad, O, X ++ R⟩ l ob := by
  refine ⟨V.fr, fun p hp => N p (mem_mid hp), V.rows.mono (fun _ _ h => h) tsub_right, V.nd, off_append ho V.off, V.mt, fun x v hx => ?_⟩
  obtain ⟨u, a, b, c⟩ := V.loc x v hx
  exact ⟨u, a.mono (fun _ => mem_r), b.mono (fun _ _ h => h) tsub_right, c⟩
theorem VR.drop (hc : F.cm = none) {h : Heap} {tk : Nat} {m : Str → Option Value} {ad : List Addr} {O R R' : List (Addr × Obj)} {l : List (Str × XV)} {ob : List MO} (V : VR F ⟨h, tk, m, ad, O, R⟩ l ob) (hs : ∀ p ∈ R', p ∈ R) (ht : TSub R R') : VR F ⟨h, tk, m, ad, O, R'⟩ l ob := by
  refine ⟨V.fr, fun p hp => V.N p ((List.mem_append.mp hp).elim mem_l fun hp => mem_r (hs p hp)), V.rows.mono (fun _ _ h => h) ht, V.nd, fun p hp => V.off p (hs p hp), V.mt, fun x v hx => ?_⟩
  obtain ⟨u, a, b, c⟩ := V.loc x v hx
  exact ⟨u, a.drop hc, b.mono (fun _ _ h => h) ht, c⟩
theorem rows_pick {P : Params} {ad : List Addr} {R : List (Addr × Obj)} {ob : List MO} {as : List Addr} {O : List (Addr × Obj)} {m : MO} (h : Rows P ad R ob as O) {k : Nat} (e : ob[k]? = some m) : ∃ a X Y, as[k]? = some a ∧ O.Perm (X ++ Y) ∧ Row1 P ad R m a X ∧ Rows P ad R (ob.set k .gone) as Y := by
  obtain ⟨a, X, Y, Z, h1, rfl, h2, h3⟩ := rows_at h e
  refine ⟨a, X, Y ++ Z, h1, ?_, h2, h3 .gone [] rfl⟩
  rw [← List.append_assoc, ← List.append_assoc]
  exact List.perm_append_comm.append_right Z
theorem tsub_mid {A X R : List (Addr × Obj)} (hX : ∀ p ∈ X, NoTup p.2) : TSub (A ++ (X ++ R)) (A ++ R) := fun p hp hc =>
  (List.mem_append.mp hp).elim mem_l fun hp => (List.mem_append.mp hp).elim (fun hp => by obtain ⟨_, _, e⟩ := hc; exact (hX p hp _ _ e).elim) mem_r
structure VS (F : Fm) (m : Str → Option Value) (ad : List Addr) (O R : List (Addr × Obj)) (l : List (Str × XV)) (ob : List MO) : Prop where
  rows : Rows F.w.params ad R ob ad O
  nd : (keys O).Nodup
  off : OwnOff R (keys O)
  mt : ∀ C, F.cm = some C → m = F.mt
  loc : ∀ x v, l.lookup x = some v → ∃ u, Rd F m R x u ∧ Den ad R u v ∧ stb F.c.un v = true
theorem VR.st {T : Sg} {l : List (Str × XV)} {ob : List MO} (V : VR F T l ob) : VS F T.m T.ad T.O T.R l ob := ⟨V.rows, V.nd, V.off, V.mt, V.loc⟩
theorem VS.rel {m : Str → Option Value} {ad : List Addr} {O R : List (Addr × Obj)} {l : List (Str × XV)} {ob : List MO} (V : VS F m ad O R l ob) {h : Heap} {tk : Nat} (F' : Fr F.h₀ F.L h m) (N : News F.h₀ F.L h (O ++ R)) : VR F ⟨h, tk, m, ad, O, R⟩ l ob := ⟨F', N, V.rows, V.nd, V.off, V.mt, V.loc⟩
theorem VS.put (hc : F.cm = none) {m : Str → Option Value} {ad : List Addr} {O R : List (Addr × Obj)} {l : List (Str × XV)} {ob : List MO} (V : VS F m ad O R l ob) {x : Str} (hx : F.c.names.lookup x = some .local) {u : Value} {v : XV} (D : Den ad R u v) (hv : stb F.c.un v = true) : VS F (fun y => if y = x then some u else m y) ad O R ((x, v) :: l) ob := by
  exact ⟨V.rows, V.nd, V.off, (fun C h => nomatch hc.symm.trans h), loc_put hc V.loc hx D hv⟩
end
end
section
open PySem.Calls PySem.Spec
section
variable {F : Fm} {f : Nat}
theorem mem_skip {A X R : List (Addr × Obj)} {p : Addr × Obj} (h : p ∈ A ++ R) : p ∈ A ++ (X ++ R) := (List.mem_append.mp h).elim mem_l fun h => mem_r (mem_r h)
theorem turns_ok (hcm : F.cm = none) (hlc : F.env.locals = F.L) (iss : SSs F f) {x : Str} (hx : F.c.names.lookup x = some .local) {body : List Stmt} {P : XF → List (Str × XV) → List MO → Prop}
    {s : Shared} {Q : Flow → Shared → Prop} {T0 : Sg} {X : List (Addr × Obj)} (hX : ∀ p ∈ X, NoTup p.2) (K : KS F T0 P s Q) {I t : Addr} {o : Obj} {cnm : String} (hcn : cnm ≠ "tuple") (ht : (t, o) ∈ X ++ T0.R) {vs : List Value} :
    ∀ {ds : List Dat} {l : List (Str × XV)} {ob : List MO} {m : Str → Option Value} {ad : List Addr} {O e : List (Addr × Obj)}, Tups e → TAll (e ++ (X ++ T0.R)) vs ds → forX (fun l ob P => wSs F.c f body l ob P) x P ds l ob →
      VS F m ad O (e ++ (X ++ T0.R)) l ob → (∀ (k : Nat) (b : Addr), T0.ad[k]? = some b → (F.c.un = false ∨ k ≠ 2) → ad[k]? = some b) →
      TRest PySem.Challenge.rw_sa0370_02.row.prog F.w F.A F.E F.h₀ F.env x body Q s I cnm t o vs m (O ++ (e ++ (X ++ T0.R))) := by
  induction vs with
  | nil =>
    intro ds l ob m ad O e he hd hw V ha h tk F' N
    rw [hlc] at F' N
    cases hd
    have V1 := (V.rel (tk := tk) F' N).drop hcm (R' := e ++ T0.R) (fun p hp => mem_skip hp) (tsub_mid hX)
    exact K ⟨h, tk, m, ad, O, e ++ T0.R⟩ _ _ l ob hw V1 ⟨fun k b hb hc => ha k b hb (hc.resolve_left (fun h => nomatch h)), e, he, rfl⟩ .next
  | cons v vs ih =>
    intro ds l ob m ad O e he hd hw V ha it h tk hic hoff F' N
    rw [hlc] at F' N ⊢
    cases hd with
    | cons hv hr =>
    rename_i d ds
    have hnt : NoTup it := notup_cls (by rw [hic]; intro e; exact hcn (by injection e))
    have V0 := ((V.put hcm (x := x) hx (.d hv) rfl).rel (tk := tk) F' fun p hp => N p (.tail _ hp)).aside (X := [(I, it)]) N fun p hp b hb => by
      rw [List.mem_singleton.mp hp]
      obtain ⟨q, hq, rfl⟩ := keys_mem hb
      exact Ne.symm (hoff q (mem_l hq))
    refine iss (show wSs F.c f body ((x, .d d) :: l) ob _ from hw) V0 fun T1 fl xf l1 ob1 hw V1 G1 D1 => ?_
    obtain ⟨h1, tk1, m1, ad1, O1, R1⟩ := T1
    obtain ⟨e2, he2, hR⟩ := G1.ext
    have ha1 : ∀ (k : Nat) (b : Addr), T0.ad[k]? = some b → (F.c.un = false ∨ k ≠ 2) → ad1[k]? = some b := fun k b hb hc => G1.adr k b (ha k b hb hc) (.inr hc)
    have hR : R1 = e2 ++ ([(I, it)] ++ (e ++ (X ++ T0.R))) := hR
    subst hR
    have t1 : TSub (e2 ++ ([(I, it)] ++ (e ++ (X ++ T0.R)))) (e2 ++ (e ++ (X ++ T0.R))) := tsub_mid fun p hp => by rw [List.mem_singleton.mp hp]; exact hnt
    have V2 := V1.drop hcm (R' := e2 ++ (e ++ (X ++ T0.R))) (fun p hp => mem_skip hp) t1
    have t2 : TSub (e2 ++ (e ++ (X ++ T0.R))) ((e2 ++ e) ++ T0.R) := by rw [← List.append_assoc]; exact tsub_mid hX
    have out : ∀ {fl' : Flow} {xf' : XF}, P xf' l1 ob1 → FlowD ad1 ((e2 ++ e) ++ T0.R) fl' xf' → Q fl' { s with heap := h1, toks := tk1 } := fun hw D =>
      K ⟨h1, tk1, m1, ad1, O1, (e2 ++ e) ++ T0.R⟩ _ _ l1 ob1 hw (V2.drop hcm (R' := (e2 ++ e) ++ T0.R) (fun p hp => by rw [← List.append_assoc]; exact mem_skip hp) t2) ⟨fun k b hb hc => ha1 k b hb (hc.resolve_left (fun h => nomatch h)), e2 ++ e, tups_app he2 he, rfl⟩ D
    have turn : forX (fun l ob P => wSs F.c f body l ob P) x P ds l1 ob1 → TEnd F.h₀ F.L I it t o (TRest PySem.Challenge.rw_sa0370_02.row.prog F.w F.A F.E F.h₀ F.env x body Q s I cnm t o vs) { s with heap := h, toks := tk } { s with heap := h1, toks := tk1 } := fun hw => by
      refine TEnd.intro (s₁ := { s with heap := h, toks := tk }) V1.fr V1.N (nx := O1 ++ (e2 ++ (e ++ (X ++ T0.R)))) (.app (.app .head)) (mem_r (mem_r (mem_r ht))) ?_ ?_
      · refine offI_app (fun p hp => Ne.symm (V1.off _ (mem_r (.head _)) _ (List.mem_map_of_mem hp))) (offI_app (he2.offI V1.N (mem_r (mem_r (.head _))) hnt fun p hp => mem_r (mem_l hp)) fun p hp => hoff p (mem_r hp))
      · have := ih (e := e2 ++ e) (tups_app he2 he) (by rw [List.append_assoc]; exact hr.mono tsub_right) hw (by rw [List.append_assoc]; exact V2.st) ha1
        rw [List.append_assoc] at this
        exact this
    cases D1 with
    | next => exact turn hw
    | ret D => exact out hw (.ret (D.mono (fun _ _ h => h) (fun p hp hc => t2 p (t1 p hp hc) hc)))
theorem sub_look {l' l : List (Str × XV)} {x : Str} {v : XV} : subL l' l → l'.lookup x = some v → l.lookup x = some v := by
  induction l' with
  | nil => exact fun _ e => nomatch e
  | cons p r ih =>
    intro h e
    rw [List.lookup_cons] at e
    cases hb : x == p.1 with
    | true =>
      rw [hb] at e
      cases e
      rw [beq_iff_eq.mp hb]
      exact h.1
    | false => rw [hb] at e; exact ih h.2 e
theorem VR.sub {T : Sg} {l l' : List (Str × XV)} {ob : List MO} (V : VR F T l ob) (hs : subL l' l) : VR F T l' ob := ⟨V.fr, V.N, V.rows, V.nd, V.off, V.mt, fun x v e => V.loc x v (sub_look hs e)⟩
theorem rng_ok (hlc : F.env.locals = F.L) {xs : List XV} {vs : List Value} {l : List (Str × XV)} {ob : List MO} {Pc : Prop} {x : Str} {body : List Stmt} (hw : rngX xs Pc) {s : Shared} {T : Sg} {Q : Flow → Shared → Prop} (V : VR F T l ob) (D : DenL T.ad T.R vs xs)
    (K : ∀ T', Pc → VR F T' l ob → Gr F false T T' → Q .next (T'.sh s)) :
    wpAny F.M F.A (call (.type "range") vs) (fun r s1 => wpAny F.M F.A (pyIter r) (fun it s₂ => LoopAtV PySem.Challenge.rw_sa0370_02.row.prog F.w F.A F.h₀ F.env x body Q F.E it s₂) F.E s1) F.E (T.sh s) := by
  obtain ⟨p, v, u, rfl, D1, D2, hw⟩ := twoL_of (show optX (twoL xs) _ from hw) D
  obtain ⟨_, _, rfl, hw⟩ := asI_of hw D1
  obtain ⟨_, _, rfl, ⟨h1, h2⟩, hw⟩ := asI_of hw D2
  refine range2_rows (s := T.sh s) V.fr V.N fun h' tk t₁ u₁ v₁ hr F' N' hkk => ?_
  refine iter_rangeS (env := F.env) (σ := Unit) (n := 0) (fun _ m' nx => nx = T.O ++ T.R ∧ m' = T.m) (fun _ _ => ()) () rfl hr h1 h2 (hlc ▸ F') (hlc ▸ N') ⟨rfl, rfl⟩ (fun k t a m₁ nx h tk own hk => (nomatch hk)) ?_
  rintro m₁ nx h tk ⟨rfl, rfl⟩ F2 N2
  rw [hlc] at F2 N2
  exact K ⟨h, tk, T.m, T.ad, T.O, T.R⟩ hw ⟨F2, N2, V.rows, V.nd, V.off, V.mt, V.loc⟩ .refl
theorem iter_ok (hcm : F.cm = none) (hlc : F.env.locals = F.L) (iss : SSs F f) {x : Str} (hx : F.c.names.lookup x = some .local) {body : List Stmt} {v : XV} {u : Value} {l : List (Str × XV)} {ob : List MO} {P : XF → List (Str × XV) → List MO → Prop}
    (hw : iterX v ob fun ds ob2 => forX (fun l ob P => wSs F.c f body l ob P) x P ds l ob2) {s : Shared} {T : Sg} {Q : Flow → Shared → Prop} (V : VR F T l ob) (D : Den T.ad T.R u v) (K : KS F T P s Q) :
    wpAny F.M F.A (pyIter u) (fun it s₂ => LoopAtV PySem.Challenge.rw_sa0370_02.row.prog F.w F.A F.h₀ F.env x body Q F.E it s₂) F.E (T.sh s) := by
  rcases if_of hw with hw | hw
  · obtain ⟨ds, t, vs, n, rfl, hm, hd, hw⟩ := asT_of hw D
    exact tup_turns (s := T.sh s) (env := F.env) rfl (V.mem hm) (hlc ▸ V.fr) (hlc ▸ V.N) fun I _ _ => turns_ok hcm hlc (s := T.sh s) iss hx (X := []) (fun _ h => nomatch h) K (by decide) hm (e := []) tups_nil hd hw V.st fun k b hb _ => hb
  · obtain ⟨k, ds, t, _, _, rfl, rfl, hk, ht, _, hw⟩ := onL_of hw V D
    obtain ⟨t', Y, O', e, hp, hr1, hr⟩ := rows_pick V.rows hk
    obtain rfl : t = t' := Option.some.inj (ht.symm.trans e)
    obtain ⟨vs, n, hd, rfl⟩ := hr1
    have hx9 : NoTup (listOf vs.toArray n) := notup_cls (cls_neL rfl (by simp))
    have hnd : ((t, listOf vs.toArray n) :: O').map (·.1) |>.Nodup := (hp.map (·.1)).nodup_iff.mp V.nd
    have hin : ∀ p ∈ (t, listOf vs.toArray n) :: O', p ∈ T.O := fun p hp' => hp.mem_iff.mpr hp'
    have V1 : VR F ⟨T.h, T.tk, T.m, T.ad, O', T.R⟩ l _ := ⟨V.fr, fun p hp => V.N p ((List.mem_append.mp hp).elim (fun hp => mem_l (hin p (.tail _ hp))) mem_r), hr, nd_tail hnd, fun p hp b hb => by
      obtain ⟨q, hq, rfl⟩ := keys_mem hb
      exact V.off p hp _ (mem_keys (hin q (.tail _ hq))), V.mt, V.loc⟩
    have V2 := V1.aside (X := [(t, listOf vs.toArray n)]) (fun p hp => V.N p ((List.mem_append.mp hp).elim (fun hp => mem_l (hin p (List.mem_singleton.mp hp ▸ .head _))) fun hp => (List.mem_append.mp hp).elim (fun hp => mem_l (hin p (.tail _ hp))) mem_r)) fun p hp b hb => by
      rw [List.mem_singleton.mp hp]
      obtain ⟨q, hq, rfl⟩ := keys_mem hb
      exact Ne.symm (nd_off hnd q hq)
    exact list_turns (s := T.sh s) (env := F.env) rfl (news := O' ++ ([(t, listOf vs.toArray n)] ++ T.R)) (mem_r (.head _)) (hlc ▸ V2.fr) (hlc ▸ V2.N) fun I _ _ => turns_ok hcm hlc (s := T.sh s) iss hx (X := [(t, listOf vs.toArray n)]) (fun p hp => by rw [List.mem_singleton.mp hp]; exact hx9) K (by decide) (.head _) (e := []) tups_nil (hd.mono tsub_right) hw V2.st fun k b hb _ => hb
end
end
section
open PySem.Calls PySem.Spec PyProof.Rows.LCg
theorem clos_go {env : Env} {f : Str × NameKind → List (Str × Addr) → Sem (ForInStep (List (Str × Addr)))} (h1 : ∀ n acc a, env.cells.lookup n = some a → f (n, .free) acc = pure (.yield ((n, a) :: acc))) (h2 : ∀ n k acc, k ≠ .free → f (n, k) acc = pure (.yield acc)) :
    ∀ (ns : List (Str × NameKind)) (acc : List (Str × Addr)), (∀ p ∈ ns, p.2 = .free → ∃ a, env.cells.lookup p.1 = some a) → (∀ q ∈ acc, env.cells.lookup q.1 = some q.2) →
      ∃ cl, forIn ns acc f = pure cl ∧ (∀ q ∈ cl, env.cells.lookup q.1 = some q.2) ∧ (∀ q ∈ acc, q ∈ cl) ∧ ∀ p ∈ ns, p.2 = .free → ∃ a, (p.1, a) ∈ cl := by
  intro ns
  induction ns with
  | nil => intro acc _ ha; exact ⟨acc, rfl, ha, fun _ h => h, fun _ h => nomatch h⟩
  | cons p ns ih =>
    intro acc hn ha
    obtain ⟨n, k⟩ := p
    by_cases hk : k = .free
    · subst hk
      obtain ⟨a, e⟩ := hn _ (.head _) rfl
      obtain ⟨cl, g1, g2, g3, g4⟩ := ih ((n, a) :: acc) (fun p hp => hn p (.tail _ hp)) fun q hq => (List.mem_cons.mp hq).elim (fun e' => e' ▸ e) (ha q)
      refine ⟨cl, ?_, g2, fun q hq => g3 q (.tail _ hq), fun p hp hf => (List.mem_cons.mp hp).elim (fun e' => ⟨a, e' ▸ g3 _ (.head _)⟩) fun hp => g4 p hp hf⟩
      rw [List.forIn_cons, h1 n acc a e, pure_bind]
      exact g1
    · obtain ⟨cl, g1, g2, g3, g4⟩ := ih acc (fun p hp => hn p (.tail _ hp)) ha
      refine ⟨cl, ?_, g2, g3, fun p hp hf => (List.mem_cons.mp hp).elim (fun e' => (hk (by rw [e'] at hf; exact hf)).elim) fun hp => g4 p hp hf⟩
      rw [List.forIn_cons, h2 n k acc hk, pure_bind]
      exact g1
theorem clos_of {scope : Scope} {env : Env} (h : ∀ p ∈ scope.names, p.2 = .free → ∃ a, env.cells.lookup p.1 = some a) : ∃ cl, closureFor scope env = pure cl ∧ ∀ p ∈ scope.names, p.2 = .free → cl.lookup p.1 = env.cells.lookup p.1 := by
  have hc : ∀ {n a}, env.cells.lookup n = some a → cellOf env n = pure a := fun e => by unfold cellOf; rw [e]
  obtain ⟨cl, g1, g2, _, g4⟩ := clos_go (env := env) (f := fun x r => if (x.2 == .free) = true then do let a ← cellOf env x.1; pure (.yield ((x.1, a) :: r)) else pure (.yield r)) (fun n acc a e => by
    show (do let a ← cellOf env n; pure (ForInStep.yield ((n, a) :: acc)) : Sem _) = _
    rw [hc e, pure_bind]) (fun n k acc hk => by
    show (if (k == NameKind.free) = true then _ else _) = _
    rw [if_neg (by simpa using hk)]) scope.names [] h (fun _ h => nomatch h)
  refine ⟨cl, ?_, fun p hp hf => ?_⟩
  · unfold closureFor
    rw [← g1]
    simp only [bind_pure]
  · obtain ⟨a, ha⟩ := g4 p hp hf
    rw [g2 _ ha]
    cases e : cl.lookup p.1 with
    | none => exact absurd ha (by have := List.lookup_eq_none_iff.mp e _ ha; simp at this)
    | some b => exact (g2 _ (lookup_mem e)).symm.trans (g2 _ ha)
section
variable {prog : Program} {w : World} {A : Around} {s : Shared}
theorem comp_loop {elt target iter : Expr} {ifs : List Expr} {scope : Scope} {pos : Pos} {it acc : Value} {env : Env} {R : Result → Shared → Prop} (I : Nat → Shared → Prop)
    (turn : ∀ n s, I n s → wpAny (model prog w) A (pyNext it) (fun r s₁ => match r with
      | none => R (.ok .next) s₁
      | some v => wpAny (model prog w) A (letOwnedTupleGo target it v) (fun _ s₀ => wpAny (model prog w) A (assign target env v) (fun _ s₂ =>
          wpAny (model prog w) A (forIn ifs true fun c r => if r = true then do let ok ← isTrue c env (eval c env); pure (ForInStep.yield ok) else pure (ForInStep.yield r)) (fun ok s₃ =>
            if ok = true then wpAny (model prog w) A (eval elt env) (fun x s₄ => wpAny (model prog w) A (call (.builtin "list.append") [acc, x]) (fun _ s₅ => ∃ m, m < n ∧ I m s₅) (notedBy (model prog w) A env fun e s' => R (.error e) s') s₄) (notedBy (model prog w) A env fun e s' => R (.error e) s') s₃
            else ∃ m, m < n ∧ I m s₃) (notedBy (model prog w) A env fun e s' => R (.error e) s') s₂) (notedBy (model prog w) A env fun e s' => R (.error e) s') s₀) (notedBy (model prog w) A env fun e s' => R (.error e) s') s₁) (notedBy (model prog w) A env fun e s' => R (.error e) s') s)
    (n : Nat) (h : I n s) : codeAny (model prog w) A (.compLoop (.ListComp elt [⟨target, iter, ifs, 0⟩] scope pos) 0 it acc env) R s := by
  refine codeAny_loop rfl I (fun n s hI => ?_) n h
  show wpAny _ A ((compTurn (.ListComp elt [⟨target, iter, ifs, 0⟩] scope pos) 0 it acc env).onRaise (fun x => do noteFrame x env; theTreesLotGoes x)) _ _ s
  refine wpAny_noted ?_
  rw [compTurn_list]
  refine wpAny_bind (wpAny_standAt (wpAny_bind (wpAny_mono (turn n s hI) (fun r s₁ h₁ => ?_) fun _ _ h' => h')))
  cases r with
  | none => exact wpAny_pure h₁
  | some v =>
    refine wpAny_bind (wpAny_mono h₁ (fun _ s₀ h₀' => ?_) fun _ _ h' => h')
    refine wpAny_bind (wpAny_mono h₀' (fun _ s₂ h₂ => ?_) fun _ _ h' => h')
    refine wpAny_bind (wpAny_mono h₂ (fun ok s₃ h₃ => ?_) fun _ _ h' => h')
    cases ok with
    | false => exact wpAny_pure ⟨rfl, h₃⟩
    | true => exact wpAny_bind (wpAny_bind (wpAny_mono h₃ (fun x s₄ h₄ => wpAny_bind (wpAny_mono h₄ (fun _ s₅ h₅ => wpAny_pure (wpAny_pure ⟨rfl, h₅⟩)) fun _ _ h' => h')) fun _ _ h' => h'))
structure Dr (prog : Program) (w : World) (A : Around) (h₀ : Heap) (R0 : List (Addr × Obj)) (it : Addr) (fp wr : List Addr) (target : Expr) (env : Addr → Env) (n : Nat) (St : Nat → Heap → Prop) (B : Nat → (Str → Option Value) → Prop) : Prop where
  sub : ∀ b ∈ wr, b ∈ fp
  frame : ∀ i h h', St i h → (∀ b ∈ fp, ∀ o, h.get? b = some o → h'.get? b = some o) → St i h'
  live : ∀ i h, St i h → (∀ p ∈ R0, h.get? p.1 = some p.2) → ∀ b ∈ fp, ∃ o, h.get? b = some o ∧ (NoTup o ∨ (b, o) ∈ R0)
  new : ∀ b ∈ wr, h₀.get? b = none
  item : ∀ i (s : Shared) C m' (Q' : Option Value → Shared → Prop) (Q : Unit → Shared → Prop) (E : Value → Shared → Prop), (∀ v s₁, wpAny (model prog w) A (letOwnedTupleGo target (.ref it) v) (fun _ s₀ => wpAny (model prog w) A (assign target (env C) v) Q E s₀) E s₁ → Q' (some v) s₁) → i < n → St i s.heap → s.heap.Ns C m' → C ∉ fp →
    (∀ h' tk m'', B i m'' → St (i + 1) h' → h'.Ns C m'' → (∀ b o, b ∉ wr → b ≠ C → s.heap.get? b = some o → h'.get? b = some o) → Q () { s with heap := h', toks := tk }) → wpAny (model prog w) A (pyNext (.ref it)) Q' E s
  self : ∀ i (s : Shared) (Q : Value → Shared → Prop) (E : Value → Shared → Prop), St i s.heap → Q (.ref it) s → wpAny (model prog w) A (pyIter (.ref it)) Q E s
  done : ∀ (s : Shared) (Q : Option Value → Shared → Prop) (E : Value → Shared → Prop), St n s.heap → (∀ h' tk, (∀ b o, b ∉ wr → s.heap.get? b = some o → h'.get? b = some o) → Q none { s with heap := h', toks := tk }) → wpAny (model prog w) A (pyNext (.ref it)) Q E s
end
theorem look_filter {l : List (Str × XV)} {p : Str × XV → Bool} {x : Str} (h : ∀ v, p (x, v) = true) : (l.filter p).lookup x = l.lookup x := by
  induction l with
  | nil => rfl
  | cons a l ih =>
    cases hp : p a with
    | true =>
      rw [List.filter_cons_of_pos hp, List.lookup_cons, List.lookup_cons, ih]
    | false =>
      rw [List.filter_cons_of_neg (by rw [hp]; exact Bool.false_ne_true), List.lookup_cons, ih]
      cases e : x == a.1 with
      | false => rfl
      | true =>
        have := h a.2
        rw [beq_iff_eq.mp e] at this
        rw [this] at hp; cases hp
theorem map_look {g : Str → NameKind → NameKind} {x : Str} {ns : List (Str × NameKind)} : (ns.map fun p => (p.1, g p.1 p.2)).lookup x = (ns.lookup x).map (g x) := by
  induction ns with
  | nil => rfl
  | cons p ns ih =>
    rw [List.map_cons, List.lookup_cons, List.lookup_cons]
    cases hx : x == p.1 with
    | true => obtain rfl := beq_iff_eq.mp hx; rfl
    | false => exact ih
theorem rel_look {c : Cfg} {x : Str} {ns : List (Str × NameKind)} : (ns.map fun p => if (p.2 == .free && c.names.lookup p.1 == some .cell) = true then (p.1, NameKind.cell) else p).lookup x = (ns.lookup x).map fun k => if (k == .free && c.names.lookup x == some .cell) = true then .cell else k := by
  rw [← map_look (g := fun n k => if (k == .free && c.names.lookup n == some .cell) = true then .cell else k)]
  congr 1
  refine List.map_congr_left fun p _ => ?_
  by_cases h : (p.2 == .free && c.names.lookup p.1 == some .cell) = true
  · rw [if_pos h, if_pos h]
  · rw [if_neg h, if_neg h]
section
variable {F : Fm} {sc : Scope} {cl : List (Str × Addr)} {C : Addr}
noncomputable abbrev Fm.inn (F : Fm) (sc : Scope) (cl : List (Str × Addr)) (C : Addr) (m : Str → Option Value) (E : Value → Shared → Prop) : Fm :=
  ⟨relC F.c sc, F.w, F.room, F.mean, F.mg, F.mb, F.dp, F.uu, F.gd, F.cn, F.cs, F.L, F.a, F.ccd, F.cl, F.outer, F.A₀, F.base, F.h₀, E, compEnvC sc cl C F.env, some C, m⟩
theorem sx_inn (S : Sx F) (hsc : scPlain sc = true) {m : Str → Option Value} {E : Value → Shared → Prop} : Sx (F.inn sc cl C m E) := by
  have h1 := and_l hsc
  have h2 := and_r hsc
  refine ⟨S.B, S.X, S.T, S.hk, S.hd, S.hu, S.big, fun x => ?_, fun p hp => ?_, beq_iff_eq.mp h1, S.gl, S.bl, rfl, S.call⟩
  · show List.lookup x (sc.names.map fun (n, k) => if (k == .free && F.env.scope.kind == .function && F.env.kindOf n == some .cell) = true then (n, .cell) else (n, k)) = List.lookup x (sc.names.map fun p => if (p.2 == .free && F.c.names.lookup p.1 == some .cell) = true then (p.1, NameKind.cell) else p)
    congr 1
    refine List.map_congr_left fun p _ => ?_
    show (if (p.2 == .free && F.env.scope.kind == .function && F.env.kindOf p.1 == some .cell) = true then _ else _) = _
    rw [S.ek, S.nm]
    have : (ScopeKind.function == ScopeKind.function) = true := rfl
    rw [this, Bool.and_true]
  · obtain ⟨q, hq, rfl⟩ := List.mem_map.mp hp
    have := List.all_eq_true.mp h2 q hq
    have h9 := bne_iff_ne.mp (Bool.and_eq_true_iff.mp this).2
    by_cases h : (q.2 == .free && F.c.names.lookup q.1 == some .cell) = true
    · rw [if_pos h]; exact h9
    · rw [if_neg h]; exact h9
theorem vr_inn {h : Heap} {tk : Nat} {m : Str → Option Value} {ad : List Addr} {O R : List (Addr × Obj)} {l b : List (Str × XV)} {ob : List MO} (V : VR F ⟨h, tk, m, ad, O, R⟩ l ob) {oC : Obj} {m₂ : Str → Option Value} (hR : (C, oC) ∈ R) (hN : NsObj oC m₂)
    (hb : ∀ y v, b.lookup y = some v → sc.names.lookup y = some .local ∧ ∃ u, m₂ y = some u ∧ Den ad R u v ∧ stb F.c.un v = true) (hfree : ∀ p ∈ sc.names, p.2 = .free → F.c.names.lookup p.1 = some .cell) (hcl : ∀ p ∈ sc.names, p.2 = .free → cl.lookup p.1 = F.env.cells.lookup p.1) {E : Value → Shared → Prop} :
    VR (F.inn sc cl C m E) ⟨h, tk, m, ad, O, R⟩ (b ++ cellsL sc l) ob := by
  refine ⟨V.fr, V.N, V.rows, V.nd, V.off, fun _ _ => rfl, fun x v hx => ?_⟩
  have rn : (F.inn sc cl C m E).c.names.lookup x = _ := rel_look (c := F.c) (x := x) (ns := sc.names)
  rw [List.lookup_append] at hx
  cases hbx : b.lookup x with
  | some v' =>
    rw [hbx] at hx
    obtain rfl : v' = v := Option.some.inj hx
    obtain ⟨k1, u, k2, k3, k4⟩ := hb x v' hbx
    refine ⟨u, ?_, k3, k4⟩
    unfold Rd
    rw [rn, k1]
    exact ⟨oC, m₂, hR, hN, k2⟩
  | none =>
    rw [hbx] at hx
    replace hx : (cellsL sc l).lookup x = some v := hx
    have hm := List.mem_filter.mp (lookup_mem hx)
    have hl : l.lookup x = some v := (look_filter (fun _ => hm.2)).symm.trans hx
    have hf := beq_iff_eq.mp hm.2
    have hc := hfree _ (lookup_mem hf) rfl
    obtain ⟨u, a, b', c'⟩ := V.loc x v hl
    obtain ⟨a', e1, rfl⟩ := (Rd.cellAt (by rw [hc]; rfl)).mp a
    refine ⟨_, ?_, b', c'⟩
    unfold Rd
    rw [rn, hf]
    have hc2 : (F.c.names.lookup x == some .cell) = true := by rw [hc]; rfl
    show cond (isCell (some (if (NameKind.free == NameKind.free && F.c.names.lookup x == some .cell) = true then NameKind.cell else .free))) _ _
    rw [if_pos (by rw [hc2]; rfl)]
    exact ⟨a', (hcl _ (lookup_mem hf) rfl).trans e1, rfl⟩
end
end
section
open PySem.Calls PySem.Spec PyProof.Rows.LCg
section
variable {F : Fm} {f : Nat}
theorem ns_notup {o : Obj} {m : Str → Option Value} (h : NsObj o m) : NoTup o := by
  obtain ⟨es, ep, hd, _⟩ := h
  exact fun vs n e => by rw [e] at hd; cases hd
structure CS (F : Fm) (T : Sg) (D C : Addr) (fp wr : List Addr) (bs : List (List (Str × XV))) (St : Nat → Heap → Prop) (l : List (Str × XV)) (W : List (List (Str × XV)) → List XV → List MO → Prop) (h : Heap) (tk i : Nat) (ys : List Value) (zs : List XV) (ad : List Addr) (O e : List (Addr × Obj)) (m' : Str → Option Value) (ob' : List MO) : Prop where
  hi : i ≤ bs.length
  hyl : ys.length ≤ i
  st : St i h
  cn : h.Ns C m'
  d : h.get? D = some (lst ys)
  tp : Tups e
  vr : VR F ⟨h, tk, T.m, ad, O, e ++ T.R⟩ l ob'
  row : ∀ p ∈ O ++ (e ++ T.R), p.1 ≠ D ∧ p.1 ≠ C ∧ p.1 ∉ wr
  off : ∀ p ∈ O, p.1 ∉ fp
  den : DenL ad (e ++ T.R) ys zs
  adr : ∀ (k : Nat) (a : Addr), T.ad[k]? = some a → ad[k]? = some a
  w : W (bs.drop i) zs ob'
noncomputable def CI (F : Fm) (T : Sg) (D C : Addr) (fp wr : List Addr) (bs : List (List (Str × XV))) (St : Nat → Heap → Prop) (l : List (Str × XV)) (W : List (List (Str × XV)) → List XV → List MO → Prop) (s : Shared) (k : Nat) (s' : Shared) : Prop :=
  ∃ h tk i ys zs ad O e m' ob', s' = { s with heap := h, toks := tk } ∧ k = bs.length + 1 - i ∧ CS F T D C fp wr bs St l W h tk i ys zs ad O e m' ob'
set_option maxHeartbeats 1000000 in
theorem comp_core (S : Sx F) (hun : F.c.un = false) (hcm : F.cm = none) {sc : Scope} {cl : List (Str × Addr)} {C D it : Addr} {fp wr : List Addr} {elt target iter : Expr} {ifs : List Expr} {pos : Pos} {bs : List (List (Str × XV))} {St : Nat → Heap → Prop} {s : Shared} {T : Sg} {l : List (Str × XV)} {ob : List MO} {P : List XV → List MO → Prop} {R : Result → Shared → Prop} {m₁ : Str → Option Value}
    (hsc : scPlain sc = true) (hfree : ∀ p ∈ sc.names, p.2 = .free → F.c.names.lookup p.1 = some .cell) (hcl : ∀ p ∈ sc.names, p.2 = .free → cl.lookup p.1 = F.env.cells.lookup p.1)
    (hbs : ∀ i y v, (bs.getD i []).lookup y = some v → sc.names.lookup y = some .local)
    (dr : Dr PySem.Challenge.rw_sa0370_02.row.prog F.w F.A F.h₀ T.R it fp wr target (fun C => compEnvC sc cl C F.env) bs.length St fun i m₂ => ∀ y v, (bs.getD i []).lookup y = some v → ∃ u d, m₂ y = some u ∧ v = .d d ∧ TIn T.R u d)
    (V : VR F T l ob) (hD : T.h.get? D = some (lst [])) (hCn : T.h.Ns C m₁) (hDC : D ≠ C) (hD0 : F.h₀.get? D = none) (hC0 : F.h₀.get? C = none) (hDL : D ≠ F.L) (hCL : C ≠ F.L) (hDf : D ∉ fp) (hCf : C ∉ fp) (hLf : F.L ∉ fp) (hst : St 0 T.h)
    (hrow : ∀ p ∈ T.O ++ T.R, p.1 ≠ D ∧ p.1 ≠ C ∧ p.1 ∉ wr) (hO : ∀ p ∈ T.O, p.1 ∉ fp) (hbl : bs.length ≤ 1000)
    (hw : wTurns (relC F.c sc) f elt ifs (cellsL sc l) P bs [] ob)
    (fin : ∀ h tk ad O e ys zs ob' m', VR F ⟨h, tk, T.m, ad, O, e ++ T.R⟩ l ob' → Tups e → (∀ (k : Nat) (a : Addr), T.ad[k]? = some a → ad[k]? = some a) → h.get? D = some (lst ys) → DenL ad (e ++ T.R) ys zs → h.Ns C m' → (∀ p ∈ O ++ (e ++ T.R), p.1 ≠ D ∧ p.1 ≠ C) → P zs ob' → R (.ok .next) { s with heap := h, toks := tk }) :
    codeAny F.M F.A (.compLoop (.ListComp elt [⟨target, iter, ifs, 0⟩] sc pos) 0 (.ref it) (.ref D) (compEnvC sc cl C F.env)) R (T.sh s) := by
  have nm := fun E : Value → Shared → Prop => sx_inn (cl := cl) (C := C) (m := T.m) (E := E) S hsc
  have HI := fun E : Value → Shared → Prop => snd_E (nm E) f
  refine comp_loop (s := T.sh s) (CI F T D C fp wr bs St l (wTurns (relC F.c sc) f elt ifs (cellsL sc l) P) s) ?_ (bs.length + 1)
    ⟨T.h, T.tk, 0, [], [], T.ad, T.O, [], m₁, ob, rfl, rfl, Nat.zero_le _, Nat.zero_le _, hst, hCn, hD, tups_nil, V, hrow, hO, .nil, fun _ _ h => h, hw⟩
  rintro k s' ⟨h, tk, i, ys, zs, ad, O, e, m', ob', rfl, rfl, hi, hyl, hst, hCn, hD, he, V, hrow, hO, hden, had, hw⟩
  have hLw : F.L ∉ wr := fun h => hLf (dr.sub _ h)
  have hDw : D ∉ wr := fun h => hDf (dr.sub _ h)
  have hCw : C ∉ wr := fun h => hCf (dr.sub _ h)
  by_cases hlt : i < bs.length
  · refine dr.item i { s with heap := h, toks := tk } C m' _ _ _ (fun v s₁ h₁ => h₁) hlt hst hCn hCf fun h5 tk5 m2 hB hst5 hCn5 hk5 => ?_
    have F5 : Fr F.h₀ F.L h5 T.m := ⟨V.fr.ns.at' fun o q => hk5 _ o hLw hCL.symm q, fun b o q => hk5 b o (fun hb => by rw [dr.new b hb] at q; cases q) (fun hb => by rw [hb, hC0] at q; cases q) (V.fr.keep b o q), V.fr.above⟩
    have N5 : News F.h₀ F.L h5 (O ++ (e ++ T.R)) := fun p hp => ⟨hk5 _ _ (hrow p hp).2.2 (hrow p hp).2.1 (V.N p hp).1, (V.N p hp).2⟩
    have hD5 : h5.get? D = some (lst ys) := hk5 _ _ hDw hDC hD
    have Nown : News F.h₀ F.L h5 (ownOf F.h₀ fp h5) := news_ownOf hLf
    have hfo : ∀ b ∈ fp, F.h₀.get? b = none → ∀ o, h5.get? b = some o → (b, o) ∈ ownOf F.h₀ fp h5 := fun b hb hn o e => mem_ownOf hb hn e
    have hof : ∀ p ∈ ownOf F.h₀ fp h5, p.1 ∈ fp := ownOf_sub
    generalize ownOf F.h₀ fp h5 = own at Nown hfo hof
    obtain ⟨oC, hoC, hNs⟩ := ns_obj hCn5
    have hlive := dr.live _ _ hst5 fun p hp => (N5 p (mem_r (mem_r hp))).1
    have hownT : ∀ p ∈ own, NoTup p.2 ∨ p ∈ T.R := fun p hp => by
      obtain ⟨o, ho, h9⟩ := hlive p.1 (hof p hp)
      have : p = (p.1, o) := Prod.ext rfl (Option.some.inj ((Nown p hp).1.symm.trans ho))
      rw [this]; exact h9
    have hwrow : ∀ b ∈ wr, ∃ o, (b, o) ∈ own ∧ NoTup o := fun b hb => by
      obtain ⟨o, ho, h9⟩ := hlive b (dr.sub _ hb)
      exact ⟨o, hfo b (dr.sub _ hb) (dr.new b hb) o ho, h9.resolve_right fun h9 => (hrow _ (mem_r (mem_r h9))).2.2 hb⟩
    let X := own ++ [(C, oC), (D, lst ys)]
    have hX : X = own ++ [(C, oC), (D, lst ys)] := rfl
    have NX : News F.h₀ F.L h5 (X ++ (O ++ (e ++ T.R))) := fun p hp => by
      rcases List.mem_append.mp hp with hp | hp
      · rcases List.mem_append.mp hp with hp | hp
        · exact Nown p hp
        · rcases List.mem_cons.mp hp with rfl | hp
          · exact ⟨hoC, hCL, hC0⟩
          · rw [List.mem_singleton.mp hp]; exact ⟨hD5, hDL, hD0⟩
      · exact N5 p hp
    have hXT : ∀ p ∈ X, NoTup p.2 ∨ p ∈ T.R := fun p hp => by
      rcases List.mem_append.mp hp with hp | hp
      · exact hownT p hp
      · rcases List.mem_cons.mp hp with rfl | hp
        · exact .inl (ns_notup hNs)
        · rw [List.mem_singleton.mp hp]; exact .inl (notup_cls (by simp))
    have mC : (C, oC) ∈ X := mem_r (.head _)
    have mD : (D, lst ys) ∈ X := mem_r (.tail _ (.head _))
    have V5 : VR F ⟨h5, tk5, T.m, ad, O, X ++ (e ++ T.R)⟩ l ob' := (V.st.rel (tk := tk5) F5 N5).aside NX fun p hp b hb => by
      obtain ⟨q, hq, rfl⟩ := keys_mem hb
      rcases List.mem_append.mp hp with hp | hp
      · exact fun eq => hO q hq (eq ▸ hof p hp)
      · rcases List.mem_cons.mp hp with rfl | hp
        · exact Ne.symm (hrow q (mem_l hq)).2.1
        · rw [List.mem_singleton.mp hp]; exact Ne.symm (hrow q (mem_l hq)).1
    have V6 := vr_inn (sc := sc) (cl := cl) (C := C) (b := bs.getD i []) V5 (mem_l mC) hNs (fun y v hy => by
      obtain ⟨u, d, h1, rfl, h3⟩ := hB y v hy
      exact ⟨hbs i y _ hy, u, h1, .d (h3.mono fun p hp _ => mem_r (mem_r hp)), rfl⟩) hfree hcl (E := notedBy F.M F.A (compEnvC sc cl C F.env) fun e s' => R (.error e) s')
    have st1 : TSub (X ++ (e ++ T.R)) (e ++ T.R) := fun p hp hc => (List.mem_append.mp hp).elim (fun hp => (hXT p hp).elim (fun hn => by obtain ⟨_, _, e9⟩ := hc; exact (hn _ _ e9).elim) mem_r) id
    have restore : ∀ (T8 : Sg) (ob8 : List MO) (h9 : Heap) (ys' : List Value) (zs' : List XV), VR (F.inn sc cl C T.m (notedBy F.M F.A (compEnvC sc cl C F.env) fun e s' => R (.error e) s')) T8 (bs.getD i [] ++ cellsL sc l) ob8 → Grow F.c.un false ad T8.ad (X ++ (e ++ T.R)) T8.R → Fr F.h₀ F.L h9 T8.m → (∀ b o, b ≠ D → T8.h.get? b = some o → h9.get? b = some o) → h9.get? D = some (lst ys') → ys'.length ≤ i + 1 → DenL T8.ad T8.R ys' zs' →
        wTurns (relC F.c sc) f elt ifs (cellsL sc l) P (bs.drop (i + 1)) zs' ob8 → ∃ m, m < bs.length + 1 - i ∧ CI F T D C fp wr bs St l (wTurns (relC F.c sc) f elt ifs (cellsL sc l) P) s m { s with heap := h9, toks := T8.tk } := by
      rintro ⟨h8, tk8, m8, ad8, O8, R8⟩ ob8 h9 ys' zs' V8 G8 F9 hk9 hD9 hyl' hden' hw'
      obtain rfl : m8 = T.m := V8.mt C rfl
      obtain ⟨e8, he8, hR8⟩ := G8.ext
      have hR8 : R8 = e8 ++ (X ++ (e ++ T.R)) := hR8
      subst hR8
      have st2 : TSub (e8 ++ (X ++ (e ++ T.R))) ((e8 ++ e) ++ T.R) := fun p hp hc => by
        rw [List.append_assoc]
        exact (List.mem_append.mp hp).elim mem_l fun hp => mem_r (st1 p hp hc)
      have hoff8 : ∀ p ∈ O8, ∀ q ∈ X, p.1 ≠ q.1 := fun p hp q hq => Ne.symm (V8.off q (mem_r (mem_l hq)) p.1 (mem_keys hp))
      have hrow8 : ∀ p ∈ O8 ++ ((e8 ++ e) ++ T.R), p.1 ≠ D ∧ p.1 ≠ C ∧ p.1 ∉ wr := fun p hp => by
        rcases List.mem_append.mp hp with hp | hp
        · exact ⟨hoff8 p hp _ mD, hoff8 p hp _ mC, fun hb => by obtain ⟨o, ho, _⟩ := hwrow _ hb; exact hoff8 p hp _ (mem_l ho) rfl⟩
        · rw [List.append_assoc] at hp
          rcases List.mem_append.mp hp with hp | hp
          · have go : ∀ {b o}, (b, o) ∈ X → NoTup o → p.1 ≠ b := fun hb hn => he8.offI V8.N (mem_r (mem_r (mem_l hb))) hn (fun q hq => mem_r (mem_l hq)) p hp
            exact ⟨go mD (notup_cls (by simp)), go mC (ns_notup hNs), fun hb => by obtain ⟨o, ho, hn⟩ := hwrow _ hb; exact go (mem_l ho) hn rfl⟩
          · exact hrow p (mem_r hp)
      have hget : ∀ p ∈ X, p.1 ≠ D → h9.get? p.1 = some p.2 := fun p hp hne => hk9 _ _ hne (V8.N p (mem_r (mem_r (mem_l hp)))).1
      refine ⟨bs.length + 1 - (i + 1), by lia -abstractProof, h9, tk8, i + 1, ys', zs', ad8, O8, e8 ++ e, m2, ob8, rfl, rfl, hlt, hyl', ?_, hNs.ns (hget _ mC hDC.symm), hD9, tups_app he8 he, ?_, hrow8, fun p hp hb => ?_, hden'.mono (fun _ _ h => h) st2, fun k a hka => G8.adr k a (had k a hka) (.inr (.inl hun)), hw'⟩
      · refine dr.frame _ _ _ hst5 fun b hb o ho => ?_
        cases hn : F.h₀.get? b with
        | some o₀ =>
          have : o₀ = o := by have := F5.keep b o₀ hn; rw [ho] at this; exact (Option.some.inj this).symm
          exact this ▸ F9.keep b o₀ hn
        | none => exact hget (b, o) (mem_l (hfo b hb hn o ho)) fun hbD => hDf (hbD ▸ hb)
      · refine ⟨F9, fun p hp => ⟨hk9 _ _ (hrow8 p hp).1 (V8.N p ?_).1, (V8.N p ?_).2⟩, V8.rows.mono (fun _ _ h => h) st2, V8.nd, fun p hp => V8.off p ?_, (fun C h => nomatch hcm.symm.trans h), fun x v hx => ?_⟩
        · exact (List.mem_append.mp hp).elim mem_l fun hp => mem_r (by rw [List.append_assoc] at hp; exact mem_skip hp)
        · exact (List.mem_append.mp hp).elim mem_l fun hp => mem_r (by rw [List.append_assoc] at hp; exact mem_skip hp)
        · rw [List.append_assoc] at hp; exact mem_skip hp
        · obtain ⟨u, a, b, c⟩ := V.loc x v hx
          exact ⟨u, a.drop hcm, b.mono (fun k a h => G8.adr k a h (.inr (.inl hun))) fun p hp _ => by rw [List.append_assoc]; exact mem_r hp, c⟩
      · cases hn : F.h₀.get? p.1 with
        | some o₀ => have := (V8.N p (mem_l hp)).2.2; rw [hn] at this; cases this
        | none =>
          obtain ⟨o, ho, _⟩ := hlive p.1 hb
          exact hoff8 p hp _ (mem_l (hfo p.1 hb hn o ho)) rfl
    have eD : ∀ {T8 : Sg} {lx : List (Str × XV)} {ob8 : List MO} {E : Value → Shared → Prop}, VR (F.inn sc cl C T.m E) T8 lx ob8 → Grow F.c.un false ad T8.ad (X ++ (e ++ T.R)) T8.R → T8.h.get? D = some (lst ys) ∧ DenL T8.ad T8.R ys zs := fun V8 G8 => by
      obtain ⟨e8, he8, hR8⟩ := G8.ext
      refine ⟨(V8.N (D, lst ys) (mem_r ?_)).1, hden.mono (fun k a h => G8.adr k a h (.inr (.inl hun))) fun p hp _ => ?_⟩
      · rw [hR8]; exact mem_r (mem_l mD)
      · rw [hR8]; exact mem_r (mem_r hp)
    have aft : ∀ (t : Bool) (T7 : Sg) (ob7 : List MO), VR (F.inn sc cl C T.m (notedBy F.M F.A (compEnvC sc cl C F.env) fun e s' => R (.error e) s')) T7 (bs.getD i [] ++ cellsL sc l) ob7 → Grow F.c.un false ad T7.ad (X ++ (e ++ T.R)) T7.R →
        cond t (wE (relC F.c sc) f elt (bs.getD i [] ++ cellsL sc l) ob7 fun y ob2 => wTurns (relC F.c sc) f elt ifs (cellsL sc l) P (bs.drop (i + 1)) (zs ++ [y]) ob2) (wTurns (relC F.c sc) f elt ifs (cellsL sc l) P (bs.drop (i + 1)) zs ob7) →
        (if t = true then wpAny F.M F.A (eval elt (compEnvC sc cl C F.env)) (fun x s₄ => wpAny F.M F.A (call (.builtin "list.append") [.ref D, x]) (fun _ s₅ => ∃ m, m < bs.length + 1 - i ∧ CI F T D C fp wr bs St l (wTurns (relC F.c sc) f elt ifs (cellsL sc l) P) s m s₅) (notedBy F.M F.A (compEnvC sc cl C F.env) fun e s' => R (.error e) s') s₄) (notedBy F.M F.A (compEnvC sc cl C F.env) fun e s' => R (.error e) s') (T7.sh s)
        else ∃ m, m < bs.length + 1 - i ∧ CI F T D C fp wr bs St l (wTurns (relC F.c sc) f elt ifs (cellsL sc l) P) s m (T7.sh s)) := fun t T7 ob7 V7 G7 hw => by
      cases t with
      | false => exact restore T7 ob7 T7.h ys zs V7 G7 V7.fr (fun _ _ _ h => h) (eD V7 G7).1 (by lia -abstractProof) (eD V7 G7).2 hw
      | true =>
        refine (HI _).e hw V7 fun T8 y z ob8 hw V8 G8 D8 => ?_
        have G9 : Grow F.c.un false ad T8.ad (X ++ (e ++ T.R)) T8.R := G7.any G8
        refine append_at (s := T8.sh s) (eD V8 G9).1 (fun h9 hs9 hD9 => ?_) (by show ys.toArray.size ≤ sizeLine; rw [List.size_toArray, sizeLine_eq]; lia -abstractProof)
        exact restore T8 ob8 h9 (ys ++ [y]) (zs ++ [z]) V8 G9 (V8.fr.change hs9 hDL hD0) (fun b o hb q => hs9.extBut b o hb q) (hD9.trans (congrArg some (lst_snoc ys y))) (by rw [List.length_append, List.length_singleton]; lia -abstractProof) ((eD V8 G9).2.append (.cons D8 .nil)) hw
    rw [List.drop_eq_getElem_cons hlt, show bs[i] = bs.getD i [] by rw [List.getD_eq_getElem?_getD, List.getElem?_eq_getElem hlt]; rfl] at hw
    cases ifs with
    | nil => exact wpAny_tests_nil (aft true ⟨h5, tk5, T.m, ad, O, X ++ (e ++ T.R)⟩ ob' V6 .refl hw)
    | cons c1 r1 =>
      cases r1 with
      | nil => exact wpAny_tests_one ((HI _).b (show wB (relC F.c sc) f c1 _ ob' _ from hw) V6 fun T7 t ob7 hw V7 G7 => aft t T7 ob7 V7 G7 hw)
      | cons _ _ => exact (show False from hw).elim
  · obtain rfl : i = bs.length := Nat.le_antisymm hi (Nat.not_lt.mp hlt)
    rw [List.drop_length] at hw
    refine dr.done _ _ _ hst fun h8 tk8 hk8 => ?_
    have F8 : Fr F.h₀ F.L h8 T.m := ⟨V.fr.ns.at' fun o q => hk8 _ o hLw q, fun b o q => hk8 b o (fun hb => by rw [dr.new b hb] at q; cases q) (V.fr.keep b o q), V.fr.above⟩
    have N8 : News F.h₀ F.L h8 (O ++ (e ++ T.R)) := fun p hp => ⟨hk8 _ _ (hrow p hp).2.2 (V.N p hp).1, (V.N p hp).2⟩
    exact fin h8 tk8 ad O e ys zs ob' m' (V.st.rel F8 N8) he had (hk8 _ _ hDw hD) hden (hCn.at' fun o q => hk8 _ o hCw q) (fun p hp => ⟨(hrow p hp).1, (hrow p hp).2.1⟩) hw
end
end
section
open PySem.Calls PySem.Spec PyProof.Rows.LCg
section
variable {F : Fm} {f : Nat}
theorem mkL_rows {P : Params} {ad : List Addr} {R : List (Addr × Obj)} {ys : List Value} {zs : List XV} {D : Addr} (h : DenL ad R ys zs) : Rows P ad R [mkL zs] [D] [(D, lst ys)] := by
  unfold mkL
  cases e : allD zs with
  | some ds => exact .lst (allD_tall h e) .nil
  | none => exact .lsx h .nil
theorem vr_made (hcm : F.cm = none) {h : Heap} {tk : Nat} {m : Str → Option Value} {ad : List Addr} {O R : List (Addr × Obj)} {l : List (Str × XV)} {ob : List MO} {C D : Addr} {oC : Obj} {ys : List Value} {zs : List XV} (V : VR F ⟨h, tk, m, ad, O, R⟩ l ob) (hC : h.get? C = some oC) (hD : h.get? D = some (lst ys)) (hden : DenL ad R ys zs)
    (hDC : D ≠ C) (hD0 : F.h₀.get? D = none) (hC0 : F.h₀.get? C = none) (hDL : D ≠ F.L) (hCL : C ≠ F.L) (hrow : ∀ p ∈ O ++ R, p.1 ≠ D ∧ p.1 ≠ C) :
    VR F ⟨h, tk, m, ad ++ [D], O ++ [(D, lst ys)], (C, oC) :: R⟩ l (ob ++ [mkL zs]) := by
  have ts : TSub R ((C, oC) :: R) := fun p hp _ => .tail _ hp
  refine ⟨V.fr, fun p hp => ?_, rows_join (V.rows.mono ad_left ts) (mkL_rows (hden.mono ad_left ts)), ?_, ?_, (fun C h => nomatch hcm.symm.trans h), fun x v hx => ?_⟩
  · rcases List.mem_append.mp hp with hp | hp
    · rcases List.mem_append.mp hp with hp | hp
      · exact V.N p (mem_l hp)
      · rw [List.mem_singleton.mp hp]; exact ⟨hD, hDL, hD0⟩
    · rcases List.mem_cons.mp hp with rfl | hp
      · exact ⟨hC, hCL, hC0⟩
      · exact V.N p (mem_r hp)
  · rw [keys_app]
    refine List.nodup_append.mpr ⟨V.nd, List.nodup_cons.mpr ⟨(fun h => nomatch h), List.nodup_nil⟩, fun a ha b hb e => ?_⟩
    obtain ⟨p, hp, rfl⟩ := keys_mem ha
    exact (hrow p (mem_l hp)).1 (e.trans (List.mem_singleton.mp hb))
  · rw [keys_app]
    intro p hp b hb
    rcases List.mem_append.mp hb with hb | hb
    · rcases List.mem_cons.mp hp with rfl | hp
      · obtain ⟨q, hq, rfl⟩ := keys_mem hb
        exact Ne.symm (hrow q (mem_l hq)).2
      · exact V.off p hp b hb
    · rw [List.mem_singleton.mp hb]
      rcases List.mem_cons.mp hp with rfl | hp
      · exact Ne.symm hDC
      · exact (hrow p (mem_r hp)).1
  · obtain ⟨u, a, b, c⟩ := V.loc x v hx
    exact ⟨u, a.drop hcm, b.mono ad_left ts, c⟩
theorem vr_letgo (hcm : F.cm = none) {h h' : Heap} {tk : Nat} {m m' : Str → Option Value} {ad : List Addr} {O R : List (Addr × Obj)} {l : List (Str × XV)} {ob : List MO} {C : Addr} {oC : Obj} (V : VR F ⟨h, tk, m, ad, O, (C, oC) :: R⟩ l ob) (hCN : NsObj oC m') (hC0 : F.h₀.get? C = none) (hCL : C ≠ F.L) (hrow : ∀ p ∈ R, p.1 ≠ C) (hs : Heap.SameBut C h h') :
    VR F ⟨h', tk, m, ad, O, R⟩ l ob := by
  have V2 := V.drop hcm (R' := R) (fun p hp => .tail _ hp) (fun p hp hc => (List.mem_cons.mp hp).elim (fun e => by obtain ⟨_, _, e9⟩ := hc; rw [e] at e9; exact (ns_notup hCN _ _ e9).elim) id)
  refine ⟨V2.fr.change hs hCL hC0, fun p hp => ⟨hs.extBut _ _ ?_ (V2.N p hp).1, (V2.N p hp).2⟩, V2.rows, V2.nd, V2.off, V2.mt, V2.loc⟩
  rcases List.mem_append.mp hp with hp | hp
  · exact Ne.symm (V.off (C, oC) (.head _) p.1 (mem_keys hp))
  · exact hrow p hp
theorem comp_start (S : Sx F) (hun : F.c.un = false) (hcm : F.cm = none) {sc : Scope} {cl : List (Str × Addr)} {it : Addr} {fp wr : List Addr} {elt target iter : Expr} {ifs : List Expr} {pos : Pos} {bs : List (List (Str × XV))} {St : Nat → Heap → Prop} {s : Shared} {T : Sg} {l : List (Str × XV)} {ob : List MO} {P : List XV → List MO → Prop} {R : Value → Addr → Result → Shared → Prop} {E : Value → Shared → Prop}
    (hsc : scPlain sc = true) (hfree : ∀ p ∈ sc.names, p.2 = .free → F.c.names.lookup p.1 = some .cell) (hcl : ∀ p ∈ sc.names, p.2 = .free → cl.lookup p.1 = F.env.cells.lookup p.1)
    (hbs : ∀ i y v, (bs.getD i []).lookup y = some v → sc.names.lookup y = some .local)
    (dr : Dr PySem.Challenge.rw_sa0370_02.row.prog F.w F.A F.h₀ T.R it fp wr target (fun C => compEnvC sc cl C F.env) bs.length St fun i m₂ => ∀ y v, (bs.getD i []).lookup y = some v → ∃ u d, m₂ y = some u ∧ v = .d d ∧ TIn T.R u d)
    (V : VR F T l ob) (hfp : ∀ b ∈ fp, @LT.lt Nat _ b T.h.objs.size) (hLf : F.L ∉ fp) (hst : St 0 T.h) (hrow : ∀ p ∈ T.O ++ T.R, p.1 ∉ wr) (hO : ∀ p ∈ T.O, p.1 ∉ fp) (hbl : bs.length ≤ 1000)
    (hw : wTurns (relC F.c sc) f elt ifs (cellsL sc l) P bs [] ob)
    (fin : ∀ D C h tk ad O e ys zs ob' oC m', VR F ⟨h, tk, T.m, ad ++ [D], O ++ [(D, lst ys)], (C, oC) :: (e ++ T.R)⟩ l (ob' ++ [mkL zs]) → NsObj oC m' → F.h₀.get? C = none → C ≠ F.L → (∀ p ∈ e ++ T.R, p.1 ≠ C) → Tups e → (∀ (k : Nat) (a : Addr), T.ad[k]? = some a → ad[k]? = some a) → ad.length = ob'.length → DenL ad (e ++ T.R) ys zs → P zs ob' → R (.ref D) C (.ok .next) { s with heap := h, toks := tk }) :
    wpAny F.M F.A (newList []) (fun acc s₃ => wpAny F.M F.A (newFunctionEnv sc F.env.globals cl [] F.env.qual none .none (some F.env)) (fun cenv s₄ =>
      codeAny F.M F.A (.compStart (.ListComp elt [⟨target, iter, ifs, 0⟩] sc pos) 0 (.ref it) acc { cenv with scope := relabel sc F.env }) (R acc cenv.locals) s₄) E s₃) E (T.sh s) := by
  have hk1 := and_l hsc
  have hk2 := and_r hsc
  have hkind : sc.kind = .function := beq_iff_eq.mp hk1
  have hcell : ∀ y ∈ sc.names, y.2 ≠ .cell := fun y hy => by
    have := List.all_eq_true.mp hk2 y hy
    exact bne_iff_ne.mp (Bool.and_eq_true_iff.mp (Bool.and_eq_true_iff.mp this).1).1
  refine wpAny_newObj_type (wpAny_newFunctionEnv hcell (by intro y hy; simp at hy) (fun h₁ hns₁ hsb₁ => ?_) hkind)
  dsimp only at hns₁ hsb₁ ⊢
  have hlt : ∀ p ∈ T.O ++ T.R, @LT.lt Nat _ p.1 T.h.objs.size := fun p hp => Heap.lt_size (V.N p hp).1
  have hLt : @LT.lt Nat _ F.L T.h.objs.size := V.fr.ns.lt
  have fresh : ∀ x : Nat, T.h.objs.size ≤ x → F.h₀.get? x = none := fun x hx => by
    cases q : F.h₀.get? x with
    | none => rfl
    | some o => have : @LT.lt Nat _ x T.h.objs.size := Heap.lt_size (V.fr.keep x o q); lia -abstractProof
  generalize hH2 : T.h.push { cls := .type "list", dict := none, data := .seq ([] : List Value).toArray } = H2 at hns₁ hsb₁ ⊢
  have hC : H2.objs.size = T.h.objs.size + 1 := by rw [← hH2, Heap.size_push]
  have up : ∀ x o, T.h.get? x = some o → h₁.get? x = some o := fun x o q => hsb₁.extBut x o (by have : @LT.lt Nat _ x T.h.objs.size := Heap.lt_size q; rw [hC]; exact Nat.ne_of_lt (by lia -abstractProof)) (Heap.get?_push_of_some _ (hH2 ▸ Heap.get?_push_of_some _ q))
  have hacc : h₁.get? T.h.objs.size = some (lst []) := hsb₁.extBut _ _ (by rw [hC]; exact Nat.ne_of_lt (by lia -abstractProof)) (Heap.get?_push_of_some _ (hH2 ▸ Heap.get?_push_size _ rfl))
  have ne : ∀ {x y : Nat}, x ≠ y → (x : Addr) ≠ y := fun h => h
  have V1 : VR F ⟨h₁, T.tk + ([] : List (Str × Value)).length, T.m, T.ad, T.O, T.R⟩ l ob := V.same (V.fr.keeps up) fun p hp => ⟨up _ _ (V.N p hp).1, (V.N p hp).2⟩
  have st1 : St 0 h₁ := dr.frame _ _ _ hst fun b _ o e => up b o e
  have hDC : (T.h.objs.size : Addr) ≠ H2.objs.size := by rw [hC]; exact Nat.ne_of_lt (Nat.lt_succ_self _)
  have loop : codeAny F.M F.A (.compLoop (.ListComp elt [⟨target, iter, ifs, 0⟩] sc pos) 0 (.ref it) (.ref T.h.objs.size) (compEnvC sc cl H2.objs.size F.env)) (R (.ref T.h.objs.size) H2.objs.size) (Sg.sh ⟨h₁, T.tk + ([] : List (Str × Value)).length, T.m, T.ad, T.O, T.R⟩ s) := by
    refine comp_core S hun hcm hsc hfree hcl hbs dr V1 hacc hns₁ hDC (fresh _ (Nat.le_refl _)) (fresh _ (by rw [hC]; lia -abstractProof)) (Nat.ne_of_gt hLt) (by rw [hC]; exact Nat.ne_of_gt (by lia -abstractProof)) (fun hm => Nat.lt_irrefl _ (hfp _ hm)) (fun hm => by have := hfp _ hm; rw [hC] at this; lia -abstractProof) hLf st1 (fun p hp => ⟨Nat.ne_of_lt (hlt p hp), by rw [hC]; exact Nat.ne_of_lt (Nat.lt_succ_of_lt (hlt p hp)), hrow p hp⟩) hO hbl hw ?_
    intro h tk ad O e ys zs ob' m' V2 he had hD hden hCn hr hP
    obtain ⟨oC, hoC, hNs⟩ := ns_obj hCn
    exact fin _ _ h tk ad O e ys zs ob' oC m' (vr_made hcm V2 hoC hD hden hDC (fresh _ (Nat.le_refl _)) (fresh _ (by rw [hC]; lia -abstractProof)) (Nat.ne_of_gt hLt) (by rw [hC]; exact Nat.ne_of_gt (by lia -abstractProof)) hr) hNs (fresh _ (by rw [hC]; lia -abstractProof)) (by rw [hC]; exact Nat.ne_of_gt (by lia -abstractProof)) (fun p hp => (hr p (mem_r hp)).2) he had V2.rows.length hden hP
  exact codeAny_compStart_list loop (dr.self _ _ _ _ st1 loop)
end
end
section
open PySem.Calls PySem.Spec PyProof.Rows.LCg
section
variable {prog : Program} {w : World} {A : Around} {h₀ : Heap} {R0 : List (Addr × Obj)} {I : Addr} {fp wr : List Addr} {n : Nat} {P : Nat → Value → Prop} {St : Nat → Heap → Prop} {sc : Scope} {cl : List (Str × Addr)} {env : Env} {B : Nat → (Str → Option Value) → Prop}
theorem dr_name {x : Str} {px : Pos} (W : Walks prog w A I fp wr n P St) (hx : sc.names.lookup x = some .local) (hkind : sc.kind = .function) (live : ∀ i h, St i h → (∀ p ∈ R0, h.get? p.1 = some p.2) → ∀ b ∈ fp, ∃ o, h.get? b = some o ∧ (NoTup o ∨ (b, o) ∈ R0)) (new : ∀ b ∈ wr, h₀.get? b = none)
    (hB : ∀ i v (m' : Str → Option Value), i < n → P i v → B i (fun y => if y = x then some v else m' y)) : Dr prog w A h₀ R0 I fp wr (.Name x px) (fun C => compEnvC sc cl C env) n St B := by
  refine ⟨W.sub, W.frame, live, new, fun i s C m' Q' Q E hQ' hi st hn hC K => ?_, W.self, fun s Q E st hQ => W.done s Q E st hQ⟩
  refine W.item i s Q' E hi st fun v h' tk hP st' hk => hQ' v _ (wpAny_pure ?_)
  have hCw : C ∉ wr := fun h => hC (W.sub _ h)
  refine wpAny_assign_Name (wpAny_storeName_local (env := compEnvC sc cl C env) (lookup_relabel_local hx) (hn.at' fun o e => hk _ o hCw e) (fun h₂ hn₂ hs₂ => ?_) (by simp [compEnvC, relabel, hkind]))
  exact K h₂ _ _ (hB i v m' hi hP) (W.frame _ _ _ st' fun b hb o e => hs₂.extBut _ _ (fun h => hC (Eq.subst (motive := fun z => z ∈ fp) h hb)) e) hn₂ fun b o h1 h2 e => hs₂.extBut _ _ h2 (hk b o h1 e)
theorem dr_pair {a b : Str} {pa pb tp : Pos} {kk : Nat} {Pt : Nat → Array Value → Prop} {Mid : Nat → Addr → Heap → Prop} (hh : A.handled = none) (W : WalksU prog w A I fp wr n Pt St Mid) (ha : sc.names.lookup a = some .local) (hb : sc.names.lookup b = some .local) (hkind : sc.kind = .function)
    (live : ∀ i h, St i h → (∀ p ∈ R0, h.get? p.1 = some p.2) → ∀ b ∈ fp, ∃ o, h.get? b = some o ∧ (NoTup o ∨ (b, o) ∈ R0)) (new : ∀ b ∈ wr, h₀.get? b = none) (self : ∀ i (s : Shared) (Q : Value → Shared → Prop) (E : Value → Shared → Prop), St i s.heap → Q (.ref I) s → wpAny (model prog w) A (pyIter (.ref I)) Q E s)
    (hB : ∀ i vals (m' : Str → Option Value), i < n → Pt i vals → ∃ u v, vals = #[u, v] ∧ B i (fun y => if y = b then some v else if y = a then some u else m' y)) : Dr prog w A h₀ R0 I fp wr (.Tuple [.Name a pa, .Name b pb] kk tp) (fun C => compEnvC sc cl C env) n St B := by
  refine ⟨W.sub, W.frame, live, new, fun i s C m' Q' Q E hQ' hi st hn hC K => ?_, self, fun s Q E st hQ => W.done s Q E st hQ⟩
  have hCw : C ∉ wr := fun h => hC (W.sub _ h)
  refine W.item i s Q' E hi st fun T vals h3 tk3 hPt hT hMid hk3 => hQ' _ _ ?_
  refine W.go _ _ _ i T _ _ _ hMid fun h4 st4 hk4 => ?_
  obtain ⟨u, v, rfl, hB'⟩ := hB i vals m' hi hPt
  refine kcp_assign (env := compEnvC sc cl C env) hh (hT.at fun o q => hk4 T o (W.apart i T _ hMid) q) (lookup_relabel_local ha) (lookup_relabel_local hb) (by simp [compEnvC, relabel, hkind]) (hn.at' fun o e => hk4 _ o hCw (hk3 _ o hCw e)) fun h5 tk5 hn5 hk5 => ?_
  exact K h5 tk5 _ hB' (W.frame _ _ _ st4 fun y hy o q => hk5 y o (fun h => hC (Eq.subst (motive := fun z => z ∈ fp) h hy)) q) hn5 fun y o h1 h2 e => hk5 y o h2 (hk4 y o h1 (hk3 y o h1 e))
end
end
section
open PySem.Calls PySem.Spec PyProof.Rows.LCg
structure Src (F : Fm) (q : CP) (l : List (Str × XV)) (bs : List (List (Str × XV))) (ob : List MO) (T : Sg) (it : Addr) (fp wr : List Addr) (St : Nat → Heap → Prop) : Prop where
  vr : VR F T l ob
  bsl : ∀ i y v, (bs.getD i []).lookup y = some v → q.sc.names.lookup y = some .local
  dr : ∀ cl, Dr PySem.Challenge.rw_sa0370_02.row.prog F.w F.A F.h₀ T.R it fp wr q.tg (fun C => compEnvC q.sc cl C F.env) bs.length St fun i m₂ => ∀ y v, (bs.getD i []).lookup y = some v → ∃ u d, m₂ y = some u ∧ v = .d d ∧ TIn T.R u d
  fpl : ∀ b ∈ fp, @LT.lt Nat _ b T.h.objs.size
  lf : F.L ∉ fp
  st : St 0 T.h
  row : ∀ p ∈ T.O ++ T.R, p.1 ∉ wr
  ow : ∀ p ∈ T.O, p.1 ∉ fp
  len : bs.length ≤ 1000
theorem getD_map {α β : Type} {g : α → List β} {ds : List α} {i : Nat} : (ds.map g).getD i [] = (ds[i]?.map g).getD [] := by
  rw [List.getD_eq_getElem?_getD, List.getElem?_map]
theorem one_look {x y : Str} {v w : XV} (h : ([(x, v)] : List (Str × XV)).lookup y = some w) : y = x ∧ v = w := by
  rw [List.lookup_cons] at h
  cases e : y == x with
  | true => rw [e] at h; exact ⟨beq_iff_eq.mp e, Option.some.inj h⟩
  | false => rw [e] at h; cases h
section
variable {F : Fm} {f : Nat}
theorem src_tup {q : CP} {x : Str} {px : Pos} (htg : q.tg = .Name x px) (hx : q.sc.names.lookup x = some .local) (hk : q.sc.kind = .function) {l : List (Str × XV)} {ob : List MO} {s : Shared} {T : Sg} (V : VR F T l ob) {t : Addr} {vs : List Value} {n : Nat} {ds : List Dat} (hm : (t, tupO vs n) ∈ T.R) (hd : TAll T.R vs ds) (hz : ds.length ≤ 1000) {E : Value → Shared → Prop} {Q : Value → Shared → Prop}
    (K : ∀ T2 it fp wr St, Src F q l (ds.map fun d => [(x, .d d)]) ob T2 it fp wr St → T2.ad = T.ad → T2.R = T.R → T2.m = T.m → Q (.ref it) (T2.sh s)) : wpAny F.M F.A (pyIter (.ref t)) Q E (T.sh s) := by
  have hol := (V.N _ (V.mem hm)).1
  have hls : T.h.IsTuple t vs.toArray := ⟨_, hol, rfl, n, rfl⟩
  have hne : t ≠ T.h.objs.size := Nat.ne_of_lt (Heap.lt_size hol)
  have hlen : vs.length = ds.length := by
    have : ∀ {vs : List Value} {ds : List Dat}, TAll T.R vs ds → vs.length = ds.length := fun h => h.length
    exact this hd
  refine wpAny_pyIter_tuple (s := T.sh s) hls ?_
  have W := Walks.tuple (prog := PySem.Challenge.rw_sa0370_02.row.prog) (w := F.w) (A := F.A) rfl T.h.objs.size t hne vs.toArray
  have N1 : ∀ p ∈ T.O ++ T.R, p.1 ≠ T.h.objs.size := fun p hp => Nat.ne_of_lt (Heap.lt_size (V.N p hp).1)
  have hI0 : F.h₀.get? T.h.objs.size = none := next_is_new V.fr
  have esz : vs.toArray.size = (ds.map fun d => [(x, XV.d d)]).length := by rw [List.size_toArray, List.length_map, hlen]
  rw [esz] at W
  refine K ⟨T.h.push { cls := .type "tuple_iterator", data := .fields #[.ref t, .int 0 0] }, T.tk, T.m, T.ad, T.O, T.R⟩ T.h.objs.size [T.h.objs.size, t] [T.h.objs.size] (fun i h => h.IsTupleIter T.h.objs.size t i ∧ h.IsTuple t vs.toArray) ⟨V.same (V.fr.push _) fun p hp => ⟨Heap.get?_push_of_some _ (V.N p hp).1, (V.N p hp).2⟩, fun i y v hy => ?_, fun cl => ?_, fun b hb => ?_, fun hb => ?_, ⟨⟨_, Heap.get?_push_size _ rfl, rfl, rfl⟩, hls.at fun o e => Heap.get?_push_of_some _ e⟩, fun p hp hb => N1 p hp (List.mem_singleton.mp hb), fun p hp hb => ?_, by rw [List.length_map]; exact hz⟩ rfl rfl rfl
  · rw [getD_map] at hy
    cases hi : ds[i]? with
    | none => rw [hi] at hy; cases hy
    | some d => rw [hi] at hy; rw [(one_look hy).1]; exact hx
  · rw [htg]
    refine dr_name W hx hk (fun i h st hR b hb => ?_) (fun b hb => by rw [List.mem_singleton.mp hb]; exact hI0) fun i v m' _ hP y z hy => ?_
    · rcases List.mem_cons.mp hb with rfl | hb
      · obtain ⟨o, ho, hc, _⟩ := st.1
        exact ⟨o, ho, .inl (notup_cls (by rw [hc]; simp))⟩
      · rw [List.mem_singleton.mp hb]; exact ⟨_, hR _ hm, .inr hm⟩
    · rw [getD_map] at hy
      cases hi : ds[i]? with
      | none => rw [hi] at hy; cases hy
      | some d =>
        rw [hi] at hy
        obtain ⟨rfl, rfl⟩ := one_look hy
        obtain ⟨u, hu, ht⟩ := hd.get hi
        have : v = u := Option.some.inj ((by simpa using hP : vs[i]? = some v).symm.trans hu)
        exact ⟨v, d, if_pos rfl, rfl, this ▸ ht⟩
  · show @LT.lt Nat _ b (T.h.push _).objs.size
    rw [Heap.size_push]
    rcases List.mem_cons.mp hb with rfl | hb
    · exact Nat.lt_succ_self _
    · rw [List.mem_singleton.mp hb]; exact Nat.lt_succ_of_lt (Heap.lt_size hol)
  · rcases List.mem_cons.mp hb with e | hb
    · exact absurd V.fr.ns.lt (by rw [e]; exact Nat.lt_irrefl _)
    · exact (V.N _ (V.mem hm)).2.1 ((List.mem_singleton.mp hb).symm)
  · rcases List.mem_cons.mp hb with e | hb
    · exact N1 p (mem_l hp) e
    · exact V.off _ hm p.1 (mem_keys hp) (List.mem_singleton.mp hb).symm
theorem src_rng {q : CP} {x : Str} {px : Pos} (htg : q.tg = .Name x px) (hx : q.sc.names.lookup x = some .local) (hk : q.sc.kind = .function) {l : List (Str × XV)} {ob : List MO} {s : Shared} {T : Sg} (V : VR F T l ob) {r : Addr} {a b : Int} {t₁ u₁ v₁ : Tok} {n : Nat} (hr : IsRange T.h r a b 1 t₁ u₁ v₁) (hsm : Builtin.Range.small a b 1 = true) (hsz : Builtin.Range.rangeSize a b 1 = (n : Int)) (hz : n ≤ 1000) {E : Value → Shared → Prop} {Q : Value → Shared → Prop}
    (K : ∀ T2 it fp wr St, Src F q l (((List.range n).map fun (k : Nat) => a + k).map fun i => [(x, .d (.int i))]) ob T2 it fp wr St → T2.ad = T.ad → T2.R = T.R → T2.m = T.m → Q (.ref it) (T2.sh s)) : wpAny F.M F.A (pyIter (.ref r)) Q E (T.sh s) := by
  refine wpAny_pyIter_range (s := T.sh s) hr hsm ?_
  have W := (Walks.range (prog := PySem.Challenge.rw_sa0370_02.row.prog) (w := F.w) (A := F.A) rfl T.h.objs.size a 1 n)
  have N1 : ∀ p ∈ T.O ++ T.R, p.1 ≠ T.h.objs.size := fun p hp => Nat.ne_of_lt (Heap.lt_size (V.N p hp).1)
  have hI0 : F.h₀.get? T.h.objs.size = none := next_is_new V.fr
  have hb : ∀ i, (((List.range n).map fun (k : Nat) => a + k).map fun i => [(x, XV.d (.int i))]).getD i [] = if i < n then [(x, XV.d (.int (a + (i : Nat))))] else [] := fun i => by
    rw [getD_map, List.getElem?_map]
    by_cases h : i < n
    · rw [if_pos h, List.getElem?_range h]; rfl
    · rw [if_neg h, List.getElem?_eq_none (by rw [List.length_range]; lia -abstractProof)]; rfl
  have esz : n = (((List.range n).map fun (k : Nat) => a + k).map fun i => [(x, XV.d (.int i))]).length := by rw [List.length_map, List.length_map, List.length_range]
  refine K ⟨T.h.push { cls := .type "range_iterator", data := .fields #[rawInt a, rawInt (Builtin.Range.rangeSize a b 1), rawInt 1] }, T.tk, T.m, T.ad, T.O, T.R⟩ T.h.objs.size [T.h.objs.size] [T.h.objs.size] (fun i h => IsRangeIter h T.h.objs.size (a + (i : Nat) * 1) ((n : Int) - (i : Nat)) 1) ⟨V.same (V.fr.push _) fun p hp => ⟨Heap.get?_push_of_some _ (V.N p hp).1, (V.N p hp).2⟩, fun i y v hy => ?_, fun cl => ?_, fun b hb => ?_, fun hb => ?_, ?_, fun p hp hb => N1 p hp (List.mem_singleton.mp hb), fun p hp hb => N1 p (mem_l hp) (List.mem_singleton.mp hb), by rw [← esz]; exact hz⟩ rfl rfl rfl
  · rw [hb] at hy
    by_cases h : i < n
    · rw [if_pos h] at hy; rw [(one_look hy).1]; exact hx
    · rw [if_neg h] at hy; cases hy
  · rw [htg, ← esz]
    refine dr_name W hx hk (fun i h st hR b hb => ?_) (fun b hb => by rw [List.mem_singleton.mp hb]; exact hI0) fun i v m' _ hP y z hy => ?_
    · rw [List.mem_singleton.mp hb]; exact ⟨_, st, .inl (notup_cls (by simp))⟩
    · rw [hb] at hy
      by_cases h : i < n
      · rw [if_pos h] at hy
        obtain ⟨rfl, rfl⟩ := one_look hy
        obtain ⟨t, rfl⟩ := hP
        exact ⟨_, _, if_pos rfl, rfl, by rw [Int.mul_one]; exact .int _ _⟩
      · rw [if_neg h] at hy; cases hy
  · rw [List.mem_singleton.mp hb]
    show @LT.lt Nat _ _ (T.h.push _).objs.size
    rw [Heap.size_push]
    exact Nat.lt_succ_self _
  · exact absurd V.fr.ns.lt (by rw [List.mem_singleton.mp hb]; exact Nat.lt_irrefl _)
  · show IsRangeIter _ _ _ _ _
    rw [hsz]
    simpa using Heap.get?_push_size _ rfl
theorem two_look {x x' y : Str} {v v' w : XV} (h : ([(x, v), (x', v')] : List (Str × XV)).lookup y = some w) : (y = x ∧ v = w) ∨ (y ≠ x ∧ y = x' ∧ v' = w) := by
  rw [List.lookup_cons] at h
  cases e : y == x with
  | true => rw [e] at h; exact .inl ⟨beq_iff_eq.mp e, Option.some.inj h⟩
  | false => rw [e] at h; exact .inr ⟨beq_eq_false_iff_ne.mp e, one_look h⟩
theorem src_enum {q : CP} {a b : Str} {pa pb tp : Pos} {kk : Nat} (htg : q.tg = .Tuple [.Name a pa, .Name b pb] kk tp) (ha : q.sc.names.lookup a = some .local) (hb : q.sc.names.lookup b = some .local) (hk : q.sc.kind = .function) {l : List (Str × XV)} {ob : List MO} {s : Shared} {T : Sg} (V : VR F T l ob) {k : Nat} {ds : List Dat} {t : Addr} (hob : ob[k]? = some (.lst ds)) (hat : T.ad[k]? = some t) (hz : ds.length ≤ 1000) {E : Value → Shared → Prop} {Q : Value → Shared → Prop}
    (K : ∀ T2 it fp wr St, Src F q l (ds.zipIdx.map fun p => [(b, .d p.1), (a, .d (.int p.2))]) (ob.set k .gone) T2 it fp wr St → T2.ad = T.ad → T2.R = T.R → T2.m = T.m → Q (.ref it) (T2.sh s)) : wpAny F.M F.A (call (.type "enumerate") [.ref t]) (fun r s₁ => wpAny F.M F.A (pyIter r) Q E s₁) E (T.sh s) := by
  obtain ⟨t', Y, O', e, hp, hr1, hr⟩ := rows_pick V.rows hob
  obtain rfl : t = t' := Option.some.inj (hat.symm.trans e)
  obtain ⟨vs, n, hd, rfl⟩ := hr1
  have hnd : ((t, listOf vs.toArray n) :: O').map (·.1) |>.Nodup := (hp.map (·.1)).nodup_iff.mp V.nd
  have hin : ∀ p ∈ (t, listOf vs.toArray n) :: O', p ∈ T.O := fun p hp' => hp.mem_iff.mpr hp'
  have V1 : VR F ⟨T.h, T.tk, T.m, T.ad, O', T.R⟩ l (ob.set k .gone) := ⟨V.fr, fun p hp => V.N p ((List.mem_append.mp hp).elim (fun hp => mem_l (hin p (.tail _ hp))) mem_r), hr, nd_tail hnd, fun p hp b hb => by
    obtain ⟨q, hq, rfl⟩ := keys_mem hb
    exact V.off p hp _ (mem_keys (hin q (.tail _ hq))), V.mt, V.loc⟩
  have zl := V.N _ (mem_l (hin _ (.head _)))
  have hl : T.h.IsList t vs.toArray := ⟨_, zl.1, rfl, n, rfl⟩
  have hlt : t < T.h.objs.size := Heap.lt_size zl.1
  refine call_enumerate_list (s := T.sh s) hl fun h' hE hI hsz hk' => ?_
  refine wpAny_pyIter_enum hE ?_
  have fresh : ∀ x : Nat, T.h.objs.size ≤ x → F.h₀.get? x = none := fun x hx => by
    cases q : F.h₀.get? x with
    | none => rfl
    | some o => have : @LT.lt Nat _ x T.h.objs.size := Heap.lt_size (V.fr.keep x o q); lia -abstractProof
  have hei : (T.h.objs.size + 1 : Addr) ≠ T.h.objs.size := Nat.succ_ne_self _
  have hle : t ≠ T.h.objs.size + 1 := Nat.ne_of_lt (Nat.lt_succ_of_lt hlt)
  have hli : t ≠ T.h.objs.size := Nat.ne_of_lt hlt
  have hlen : vs.length = ds.length := hd.length
  have W := (WalksT.enumerate (prog := PySem.Challenge.rw_sa0370_02.row.prog) (w := F.w) (A := F.A) rfl (T.h.objs.size + 1) T.h.objs.size t hei hle hli vs.toArray).toU
  have hg : ∀ i, (ds.zipIdx.map fun p => [(b, XV.d p.1), (a, .d (.int p.2))]).getD i [] = (ds[i]?.map fun d => [(b, XV.d d), (a, .d (.int (i : Nat)))]).getD [] := fun i => by
    rw [getD_map, List.getElem?_zipIdx, Option.map_map, Nat.zero_add]; rfl
  have esz : vs.toArray.size = (ds.zipIdx.map fun p => [(b, XV.d p.1), (a, .d (.int p.2))]).length := by rw [List.size_toArray, List.length_map, List.length_zipIdx, hlen]
  rw [esz] at W
  have hltp : ∀ p ∈ T.O ++ T.R, @LT.lt Nat _ p.1 T.h.objs.size := fun p hp => Heap.lt_size (V.N p hp).1
  have hltQ : ∀ p ∈ O' ++ T.R, @LT.lt Nat _ p.1 T.h.objs.size := fun p hp => hltp p ((List.mem_append.mp hp).elim (fun hp => mem_l (hin p (.tail _ hp))) mem_r)
  refine K ⟨h', T.tk, T.m, T.ad, O', T.R⟩ (T.h.objs.size + 1) [T.h.objs.size + 1, T.h.objs.size, t] [T.h.objs.size + 1, T.h.objs.size] (fun i h => (∃ old, IsEnum h (T.h.objs.size + 1) T.h.objs.size (i : Nat) old) ∧ h.IsListIter T.h.objs.size t i ∧ h.IsList t vs.toArray) ⟨V1.same (V1.fr.keeps hk') fun p hp => ⟨hk' _ _ (V1.N p hp).1, (V1.N p hp).2⟩, fun i y v hy => ?_, fun cl => ?_, fun b hb => ?_, fun hb => ?_, ⟨⟨_, hE⟩, hI, hl.at fun o e => hk' _ o e⟩, fun p hp hb => ?_, fun p hp hb => ?_, by rw [← esz, List.size_toArray, hlen]; exact hz⟩ rfl rfl rfl
  · rw [hg] at hy
    cases hi : ds[i]? with
    | none => rw [hi] at hy; cases hy
    | some d =>
      rw [hi] at hy
      rcases two_look hy with ⟨rfl, _⟩ | ⟨_, rfl, _⟩
      · exact hb
      · exact ha
  · rw [htg]
    refine dr_pair rfl W ha hb hk (fun i h st hR b hb => ?_) (fun b hb => ?_) (fun i s Q E st hQ => wpAny_pyIter_enum st.1.choose_spec hQ) fun i vals m' _ hP => ?_
    · obtain ⟨⟨old, ho⟩, ⟨oi, hoi, hoi2⟩, hl5⟩ := st
      rcases List.mem_cons.mp hb with rfl | hb
      · exact ⟨_, ho, .inl (notup_cls (by simp))⟩
      · rcases List.mem_cons.mp hb with rfl | hb
        · exact ⟨oi, hoi, .inl (notup_cls (by rw [hoi2.1]; simp))⟩
        · rw [List.mem_singleton.mp hb]
          obtain ⟨o, ho, hc, _⟩ := hl5
          exact ⟨o, ho, .inl (notup_cls (by rw [hc]; simp))⟩
    · rcases List.mem_cons.mp hb with rfl | hb
      · exact fresh _ (Nat.le_succ _)
      · rw [List.mem_singleton.mp hb]; exact fresh _ (Nat.le_refl _)
    · obtain ⟨tt, x, hx, rfl⟩ := hP
      refine ⟨_, _, rfl, fun y z hy => ?_⟩
      rw [hg] at hy
      cases hi : ds[i]? with
      | none => rw [hi] at hy; cases hy
      | some d =>
        rw [hi] at hy
        obtain ⟨u, hu, ht⟩ := hd.get hi
        have : x = u := Option.some.inj ((by simpa using hx : vs[i]? = some x).symm.trans hu)
        rcases two_look hy with ⟨rfl, rfl⟩ | ⟨hne, rfl, rfl⟩
        · exact ⟨x, d, if_pos rfl, rfl, this ▸ ht⟩
        · exact ⟨.int i tt, .int (i : Nat), (if_neg hne).trans (if_pos rfl), rfl, .int _ _⟩
  · show @LT.lt Nat _ b h'.objs.size
    have hsz : h'.objs.size = T.h.objs.size + 2 := hsz
    rw [hsz]
    rcases List.mem_cons.mp hb with rfl | hb
    · exact Nat.lt_succ_self _
    · rcases List.mem_cons.mp hb with rfl | hb
      · exact Nat.lt_succ_of_lt (Nat.lt_succ_self _)
      · rw [List.mem_singleton.mp hb]; exact Nat.lt_succ_of_lt (Nat.lt_succ_of_lt hlt)
  · have hL : @LT.lt Nat _ F.L T.h.objs.size := V.fr.ns.lt
    rcases List.mem_cons.mp hb with e | hb
    · exact absurd e (Nat.ne_of_lt (Nat.lt_succ_of_lt hL))
    · rcases List.mem_cons.mp hb with e | hb
      · exact absurd e (Nat.ne_of_lt hL)
      · exact zl.2.1 (List.mem_singleton.mp hb).symm
  · have hp := hltQ p hp
    rcases List.mem_cons.mp hb with e | hb
    · exact absurd e (Nat.ne_of_lt (Nat.lt_succ_of_lt hp))
    · exact absurd (List.mem_singleton.mp hb) (Nat.ne_of_lt hp)
  · have hp2 := hltQ p (mem_l hp)
    rcases List.mem_cons.mp hb with e | hb
    · exact absurd e (Nat.ne_of_lt (Nat.lt_succ_of_lt hp2))
    · rcases List.mem_cons.mp hb with e | hb
      · exact absurd e (Nat.ne_of_lt hp2)
      · exact nd_off hnd p hp (List.mem_singleton.mp hb)
end
end
section
open PySem.Calls PySem.Spec PyProof.Rows.LCg
section
variable {F : Fm} {f : Nat}
theorem some_bind {α β : Type} {o : Option α} {k : α → Option β} {b : β} (h : o.bind k = some b) : ∃ a, o = some a ∧ k a = some b := Option.bind_eq_some_iff.mp h
theorem l2_eq {α : Type} {l : List α} {p : α × α} (h : l2 l = some p) : l = [p.1, p.2] := by
  match l, h with
  | [a, b], h => cases h; rfl
theorem l1_eq {α : Type} {l : List α} {p : α} (h : l1 l = some p) : l = [p] := by
  match l, h with
  | [a], h => cases h; rfl
theorem name_of {e : Expr} {x : Str} (h : nameOf e = some x) : ∃ p, e = .Name x p := by
  cases e with
  | Name y p => cases h; exact ⟨p, rfl⟩
  | _ => exact absurd h.symm (Option.some_ne_none x)
theorem call_of_name {it : Expr} {q : Str × List Expr} (h : callOf it = some q) : ∃ rp p, it = .Call (.Name q.1 rp) q.2 [] p := by
  cases it with
  | Call g as kw p =>
    cases g with
    | Name x xp =>
      cases kw with
      | cons _ _ => exact absurd h.symm (Option.some_ne_none q)
      | nil => cases h; exact ⟨_, _, rfl⟩
    | _ => exact absurd h.symm (Option.some_ne_none q)
  | _ => exact absurd h.symm (Option.some_ne_none q)
theorem range_call {it : Expr} {r : Str} {a b : Expr} (h : rangeOf it = some (r, a, b)) : ∃ rp p, it = .Call (.Name r rp) [a, b] [] p := by
  obtain ⟨⟨r', as⟩, h1, h⟩ := some_bind h
  obtain ⟨⟨a', b'⟩, h2, h⟩ := some_bind h
  cases h
  obtain ⟨rp, p, e⟩ := call_of_name h1
  exact ⟨rp, p, e.trans (by rw [l2_eq h2])⟩
theorem range_call1 {it : Expr} {r : Str} {a : Expr} (h : rangeOf1 it = some (r, a)) : ∃ rp p, it = .Call (.Name r rp) [a] [] p := by
  obtain ⟨⟨r', as⟩, h1, h⟩ := some_bind h
  obtain ⟨a', h2, h⟩ := some_bind h
  cases h
  obtain ⟨rp, p, e⟩ := call_of_name h1
  exact ⟨rp, p, e.trans (by rw [l1_eq h2])⟩
theorem two_names {ts : List Expr} {a b : Str} (h : twoN ts = some (a, b)) : ∃ ap bp, ts = [.Name a ap, .Name b bp] := by
  obtain ⟨⟨e1, e2⟩, h1, h⟩ := some_bind h
  obtain ⟨a', h2, h⟩ := some_bind h
  obtain ⟨b', h3, h⟩ := some_bind h
  cases h
  obtain ⟨ap, h2⟩ := name_of h2
  obtain ⟨bp, h3⟩ := name_of h3
  exact ⟨ap, bp, (l2_eq h1).trans (by rw [h2, h3])⟩
theorem gen_ok (S : Sx F) (H : SndE F f) {q : CP} (hsc : scPlain q.sc = true) {l : List (Str × XV)} {ob : List MO} {K : List (List (Str × XV)) → List MO → Prop} (hw : genX F.c f q l ob K) {s : Shared} {T : Sg} {Q : Value → Shared → Prop} (V : VR F T l ob)
    (Kt : ∀ T2 it fp wr St bs ob2, K bs ob2 → Src F q l bs ob2 T2 it fp wr St → Gr F false T T2 → Q (.ref it) (T2.sh s)) : wpAny F.M F.A (eval q.it F.env) (fun x s₁ => wpAny F.M F.A (pyIter x) Q F.E s₁) F.E (T.sh s) := by
  have hk : q.sc.kind = .function := beq_iff_eq.mp (Bool.and_eq_true_iff.mp hsc).1
  obtain ⟨elt, tg, iter, ifs, sc, pos⟩ := q
  cases tg with
  | Name x px =>
    have hx := cond_b hw
    have hw := cond_p hw
    have hx := beq_iff_eq.mp hx
    cases hrg : rangeOf iter with
    | some p =>
      obtain ⟨r, ea, eb⟩ := p
      rw [show rangeOf (CP.it ⟨elt, .Name x px, iter, ifs, sc, pos⟩) = some (r, ea, eb) from hrg] at hw
      obtain ⟨rp, cp, rfl⟩ := range_call hrg
      refine Call_ (name_ok S hw V fun v z hw D => ?_)
      have h1 := cond_b hw
      have hr := cond_p hw
      have h23 := and_r h1
      have h1 := and_l h1
      have h2 := and_l h23
      have h3 := and_r h23
      obtain rfl := asG_eq (beq_iff_eq.mp h1)
      obtain rfl := den_g D
      refine PyProof.Rows.callWith_type1 (H.l hr V fun T2 vs xs ob2 hw V2 G2 D2 hl => ?_) (star_cons h2 _ _) (no_star (by show (notStar eb && true) = true; rw [h3]; rfl))
      obtain ⟨p, v, u, rfl, D3, D4, hw⟩ := twoL_of (show optX (twoL xs) _ from hw) D2
      obtain ⟨_, _, rfl, hw⟩ := asI_of hw D3
      obtain ⟨_, _, rfl, n, ⟨hz, hsm, hsz⟩, hw⟩ := asI_of hw D4
      refine range2_rows (s := T2.sh s) V2.fr V2.N fun h' tk t₁ u₁ v₁ hr F' N' hkk => ?_
      exact src_rng (q := ⟨elt, .Name x px, _, ifs, sc, pos⟩) (T := ⟨h', tk, T2.m, T2.ad, T2.O, T2.R⟩) rfl hx hk (V2.same F' N') hr hsm hsz hz fun T3 it fp wr St hS e1 e2 e3 => Kt T3 it fp wr St _ _ hw hS (by unfold Gr; rw [e1, e2]; exact G2.no)
    | none =>
      rw [show rangeOf (CP.it ⟨elt, .Name x px, iter, ifs, sc, pos⟩) = none from hrg] at hw
      refine H.e hw V fun T1 u v ob1 hw V1 G1 D1 => ?_
      obtain ⟨ds, t, vs, n, rfl, hm, hd, hz, hw⟩ := asT_of hw D1
      exact src_tup (q := ⟨elt, .Name x px, iter, ifs, sc, pos⟩) rfl hx hk V1 hm hd hz fun T3 it fp wr St hS e1 e2 e3 => Kt T3 it fp wr St _ _ hw hS (by unfold Gr; rw [e1, e2]; exact G1.no)
  | Tuple ts kk tp =>
    obtain ⟨ab, hab, hw⟩ := optX_some (show optX (twoN ts) _ from hw)
    obtain ⟨a, b⟩ := ab
    obtain ⟨ap, bp, rfl⟩ := two_names hab
    have h1 := cond_b hw
    have hw := cond_p hw
    have h2 := and_r h1
    have h1 := and_l h1
    have ha := and_l h1
    have hb := and_r h1
    obtain ⟨⟨r, ea⟩, hr1, hw⟩ := optX_some (show optX (rangeOf1 iter) _ from hw)
    obtain ⟨rp, cp, rfl⟩ := range_call1 hr1
    refine Call_ (name_ok S hw V fun v z hw D => ?_)
    have h1 := cond_b hw
    have hr := cond_p hw
    have h2 := and_r h1
    have h1 := and_l h1
    obtain rfl := asG_eq (beq_iff_eq.mp h1)
    obtain rfl := den_g D
    refine PyProof.Rows.callWith_type1 (H.l hr V fun T2 vs xs ob2 hw V2 G2 D2 hl => ?_) (star_cons h2 _ _) rfl
    obtain ⟨p, v, rfl, D1, hw⟩ := oneL_of (show optX (oneL xs) _ from hw) D2
    obtain ⟨k, ds, t, _, _, rfl, rfl, hk9, ht, _, hz, hw⟩ := onL_of hw V2 D1
    exact src_enum (q := ⟨elt, .Tuple [.Name a ap, .Name b bp] kk tp, _, ifs, sc, pos⟩) rfl (beq_iff_eq.mp ha) (beq_iff_eq.mp hb) hk V2 hk9 ht hz fun T3 it fp wr St hS e1 e2 e3 => Kt T3 it fp wr St _ _ hw hS (by unfold Gr; rw [e1, e2]; exact G2.no)
  | _ => exact (show False from hw).elim
end
end
section
open PySem.Calls PySem.Spec PyProof.Rows.LCg
theorem compP_eq {v : Expr} {q : CP} (h : compP v = some q) : v = .ListComp q.elt [⟨q.tg, q.it, q.ifs, 0⟩] q.sc q.pos := by
  cases v with
  | ListComp e gs sc p =>
    cases gs with
    | nil => cases h
    | cons g r =>
      cases r with
      | cons _ _ => obtain ⟨_, _, _, _⟩ := g; cases h
      | nil =>
        obtain ⟨tg, it, ifs, a⟩ := g
        have h : cond (a == 0) (some (⟨e, tg, it, ifs, sc, p⟩ : CP)) none = some q := h
        cases ha : a == 0 with
        | false => rw [ha] at h; cases h
        | true =>
          rw [ha] at h
          obtain rfl := beq_iff_eq.mp ha
          cases h; rfl
  | _ => cases h
section
variable {F : Fm} {f : Nat}
theorem comp_run (S : Sy F) {cp : CP} {pz : Pos} {l : List (Str × XV)} {ob : List MO} {P : List XV → List MO → Prop} (ho : compOk F.c l cp = true) (hw : compX F.c f cp l ob P) {s : Shared} {T : Sg} {use : Option (Value → Sem Unit)} {Q : Value → Shared → Prop} (V : VR F T l ob)
    (fin : ∀ T2 D C h tk ad O e ys zs ob' oC m', Gr F false T T2 → VR F ⟨h, tk, T2.m, ad ++ [D], O ++ [(D, lst ys)], (C, oC) :: (e ++ T2.R)⟩ l (ob' ++ [mkL zs]) → NsObj oC m' → F.h₀.get? C = none → C ≠ F.L → (∀ p ∈ e ++ T2.R, p.1 ≠ C) → Tups e → (∀ (k : Nat) (a : Addr), T2.ad[k]? = some a → ad[k]? = some a) → ad.length = ob'.length → DenL ad (e ++ T2.R) ys zs → P zs ob' → compPost F.M F.A F.E use Q (.ref D) C (.ok .next) { s with heap := h, toks := tk }) :
    wpAny F.M F.A (comprehension (.ListComp cp.elt [⟨cp.tg, cp.it, cp.ifs, 0⟩] cp.sc cp.pos) cp.sc F.env pz (newList []) false (eval cp.it F.env) use) Q F.E (T.sh s) := by
  have h1 := and_l ho
  have h4 := and_r ho
  have h3 := and_r h1
  have h1 := and_l h1
  have h2 := and_r h1
  have h1 := and_l h1
  have hun : F.c.un = false := by simpa using h1
  have hk1 := and_l h2
  have hk2 := and_r h2
  have hfr : ∀ p ∈ cp.sc.names, p.2 = .free → F.c.names.lookup p.1 = some .cell ∧ ∃ a, F.env.cells.lookup p.1 = some a := fun p hp hf => by
    have := List.all_eq_true.mp h4 p hp
    rw [hf] at this
    have h5 := and_l ((Bool.or_eq_true_iff.mp this).resolve_left (by decide))
    have h6 := and_r ((Bool.or_eq_true_iff.mp this).resolve_left (by decide))
    have hc := beq_iff_eq.mp h5
    refine ⟨hc, ?_⟩
    cases e : l.lookup p.1 with
    | none => rw [e] at h6; cases h6
    | some v =>
      obtain ⟨u, a, _⟩ := V.loc _ _ e
      obtain ⟨a', e1, _⟩ := (Rd.cellAt (by rw [hc]; rfl)).mp a
      exact ⟨a', e1⟩
  obtain ⟨cl, hcl1, hcl2⟩ := clos_of fun p hp hf => (hfr p hp hf).2
  refine wpAny_comprehension_free rfl (fun y => by generalize cp.it = itx at h3; cases itx <;> first | rfl | cases h3) hcl1 (beq_iff_eq.mp hk1) (fun y hy hl => ?_) (gen_ok S.toSx (snd_E S.toSx f) h2 hw V fun T2 it fp wr St bs ob2 hw hS G2 => ?_)
  · have := List.all_eq_true.mp hk2 y hy
    have := (Bool.and_eq_true_iff.mp (Bool.and_eq_true_iff.mp this).1).2
    rw [hl] at this
    exact beq_iff_eq.mp ((Bool.or_eq_true_iff.mp this).resolve_left (by decide))
  · exact comp_start S.toSx hun S.cm0 h2 (fun p hp hf => (hfr p hp hf).1) hcl2 hS.bsl (hS.dr cl) hS.vr hS.fpl hS.lf hS.st hS.row hS.ow hS.len hw fun D C h tk ad O e ys zs ob' oC m' V3 hN hC0 hCL hr he had hl hd hP => fin T2 D C h tk ad O e ys zs ob' oC m' G2 V3 hN hC0 hCL hr he had hl hd hP
end
end
section
open PySem.Calls PySem.Spec
section
variable {prog : Program} {w : World} {A : Around} {E : Value → Shared → Prop} {s : Shared} {env : Env}
theorem walk_draw {I : Addr} {fp wr : List Addr} {vs : List Value} {St : Nat → Heap → Prop} (W : Walks prog w A I fp wr vs.length (fun i v => vs[i]? = some v) St) : ∀ (n i : Nat) (s : Shared) (Q : List Value → Shared → Prop), St i s.heap → i + n = vs.length →
    (∀ h' tk, St vs.length h' → (∀ b o, b ∉ wr → s.heap.get? b = some o → h'.get? b = some o) → Q (vs.drop i) { s with heap := h', toks := tk }) → wpAny (model prog w) A (draw (.ref I) n) Q E s
  | 0, i, s, Q, st, hn, hQ => by
    show wpAny _ _ (pure []) Q E s
    obtain rfl : i = vs.length := by lia -abstractProof
    have := hQ s.heap s.toks st fun _ _ _ e => e
    rw [List.drop_length] at this
    exact wpAny_pure this
  | n + 1, i, s, Q, st, hn, hQ => by
    have hlt : i < vs.length := by lia -abstractProof
    show wpAny _ _ (pyNext (.ref I) >>= _) Q E s
    refine wpAny_bind (W.item i s _ E hlt st fun v h₁ tk₁ hv st₁ hk₁ => ?_)
    refine wpAny_bind (wpAny_holding (walk_draw W n (i + 1) _ _ st₁ (by lia -abstractProof) fun h₂ tk₂ st₂ hk₂ => wpAny_pure ?_))
    have := hQ h₂ tk₂ st₂ fun b o hb e => hk₂ b o hb (hk₁ b o hb e)
    rw [List.drop_eq_getElem_cons hlt, (List.getElem?_eq_some_iff.mp hv).2] at this
    exact this
theorem unpack_list {t : Addr} {vs : List Value} {targets : List (Bool × (Value → Sem Unit))} {Q : Unit → Shared → Prop} (hh : A.handled = none) (ht : s.heap.IsList t vs.toArray) (hn : targets.length = vs.length) (hstar : targets.findIdx? (·.1) = none)
    (h : ∀ h' tk, (∀ b o, s.heap.get? b = some o → h'.get? b = some o) → wpAny (model prog w) A (assignInOrder (targets.map (·.2)) vs) Q E { s with heap := h', toks := tk }) : wpAny (model prog w) A (unpack (.ref t) targets) Q E s := by
  have hlt : t ≠ s.heap.objs.size := by obtain ⟨o, ho, _⟩ := ht; exact Nat.ne_of_lt (Heap.lt_size ho)
  have W := Walks.list (prog := prog) (w := w) (A := A) hh s.heap.objs.size t hlt vs.toArray
  have W : Walks prog w A s.heap.objs.size [s.heap.objs.size, t] [s.heap.objs.size] vs.length (fun i v => vs[i]? = some v) fun i h => h.IsListIter s.heap.objs.size t i ∧ h.IsList t vs.toArray := by simpa using W
  unfold unpack
  rw [hn, hstar]
  refine wpAny_bind (wpAny_holding ?_)
  unfold unpackItems
  refine wpAny_bind ?_
  unfold notIterableAtAll
  refine wpAny_bind (wpAny_specialOf ht.typeIs slot_list_iter.lookup ?_)
  refine wpAny_pure ?_
  simp only [Bool.false_eq_true, if_false]
  refine wpAny_bind (wpAny_holding (wpAny_pyIter_list ht ?_))
  have old : ∀ (b : Addr) (o : Obj), s.heap.get? b = some o → b ∉ [s.heap.objs.size] := fun b o e hb => Nat.ne_of_lt (Heap.lt_size e) (List.mem_singleton.mp hb)
  refine wpAny_bind (wpAny_holding (walk_draw W vs.length 0 _ _ ⟨⟨_, Heap.get?_push_size _ rfl, rfl, rfl⟩, ht.at fun o e => Heap.get?_push_of_some _ e⟩ (Nat.zero_add _) fun h₁ tk₁ st₁ hk₁ => ?_))
  rw [List.drop_zero, if_neg (by lia -abstractProof)]
  refine wpAny_bind (wpAny_holding (W.done _ _ _ st₁ fun h₂ tk₂ hk₂ => ?_))
  simp only [Option.isSome_none, Bool.false_eq_true, if_false]
  exact wpAny_pure (h h₂ tk₂ fun b o e => hk₂ b o (old b o e) (hk₁ b o (old b o e) (Heap.get?_push_of_some _ e)))
end
end
section
section
variable {prog : Program} {w : World} {A : Around} {E : Value → Shared → Prop} {s : Shared}
structure Apt (z TI TO i1 i2 : Addr) : Prop where
  a : TI ≠ z
  b : TO ≠ z
  c : i1 ≠ z
  d : i2 ≠ z
  e : TI ≠ TO
  f : TI ≠ i1
  g : TI ≠ i2
  h : TO ≠ i1
  i : TO ≠ i2
  j : i1 ≠ i2
theorem zip_turn {z TI TO i1 i2 : Addr} {n1 n2 i : Nat} {P1 P2 : Nat → Value → Prop} {St1 St2 : Nat → Heap → Prop} {a b : Value} {Q : Value → Shared → Prop} (D : Apt z TI TO i1 i2) (D1 : Draws prog w A i1 [i1] n1 P1 St1) (D2 : Draws prog w A i2 [i2] n2 P2 St2) (hi : i ≤ min n1 n2)
    (hz : IsZip s.heap z TI TO .none) (hTI : IsPair s.heap TI (.ref i1) (.ref i2)) (hTO : IsPair s.heap TO a b) (h1 : St1 i s.heap) (h2 : St2 i s.heap)
    (hQ : i < min n1 n2 → ∀ h' tk x y, P1 i x → P2 i y → IsZip h' z TI TO (rawInt s.heap.objs.size) → IsPair h' TO x y → St1 (i + 1) h' → St2 (i + 1) h' → IsPair h' s.heap.objs.size x y →
      (∀ c o, c ≠ z → c ≠ TO → c ≠ i1 → c ≠ i2 → s.heap.get? c = some o → h'.get? c = some o) → Q (.ref s.heap.objs.size) { s with heap := h', toks := tk })
    (hE : i = min n1 n2 → ∀ h' tk e, (∀ c o, c ≠ z → c ≠ TO → c ≠ i1 → c ≠ i2 → s.heap.get? c = some o → h'.get? c = some o) → (∃ o, h'.get? e = some o ∧ o.cls = .type "StopIteration") → E (.ref e) { s with heap := h', toks := tk }) :
    wpAny (model prog w) A (Builtin.«zip.__next__» ⟨[.ref z], []⟩) (fun fin s' => ∃ v, fin = .done (.ret v) ∧ Q v s') E s := by
  show wpAny _ _ (field (.ref z) 2 >>= _) _ _ _
  refine wpAny_bind (wpAny_field hz rfl (x := .bool false) rfl ?_)
  show wpAny _ _ (field (.ref z) 3 >>= _) _ _ _
  refine wpAny_bind (wpAny_field hz rfl (x := .ref TI) rfl ?_)
  refine wpAny_bind (wpAny_seqItems hTI rfl ?_)
  show wpAny _ _ (Builtin.SmallTypes.ownedTupleIsFree (.ref z) >>= _) _ _ _
  refine wpAny_bind ?_
  unfold Builtin.SmallTypes.ownedTupleIsFree
  refine wpAny_bind (wpAny_field hz rfl (x := .none) rfl (wpAny_pure ?_))
  simp only [if_true]
  refine wpAny_bind (wpAny_rule ?_)
  refine wpAny_bind (wpAny_field hz rfl (x := .ref TO) rfl ?_)
  refine wpAny_bind (wpAny_setField_rec hz (by simp) fun g1 hz1 u1 => ?_)
  replace hz1 : IsZip g1 z TI TO .ellipsis := hz1
  have k1 : ∀ {c o}, c ≠ z → s.heap.get? c = some o → g1.get? c = some o := fun h e => u1.extBut _ _ h e
  refine wpAny_bind ?_
  simp only [List.zipIdx_cons, List.zipIdx_nil, List.forIn_cons, List.forIn_nil]
  refine wpAny_bind (wpAny_bind (wpAny_onRaise ?_))
  show wpAny _ _ (Builtin.SmallTypes.nextOf (.ref i1) >>= _) _ _ _
  have s1 : St1 i g1 := D1.frame _ _ _ h1 fun c hc o e => k1 (List.mem_singleton.mp hc ▸ D.c) e
  have s2 : St2 i g1 := D2.frame _ _ _ h2 fun c hc o e => k1 (List.mem_singleton.mp hc ▸ D.d) e
  by_cases hlt : i < n1
  · refine wpAny_bind (D1.item i _ _ _ hlt s1 fun x g2 tk2 hP1 t1 u2 => wpAny_pure ?_)
    have hTO2 : IsPair g2 TO a b := u2.extBut _ _ D.h (k1 D.b hTO)
    refine wpAny_bind (wpAny_seqItems hTO2 rfl ?_)
    refine wpAny_bind (wpAny_updateSeq_pair hTO2 fun g3 hTO3 u3 => ?_)
    replace hTO3 : IsPair g3 TO x b := hTO3
    refine wpAny_bind (wpAny_letGo (wpAny_pure ?_))
    refine wpAny_bind (wpAny_bind (wpAny_onRaise ?_))
    show wpAny _ _ (Builtin.SmallTypes.nextOf (.ref i2) >>= _) _ _ _
    have k3 : ∀ {c o}, c ≠ z → c ≠ TO → c ≠ i1 → s.heap.get? c = some o → g3.get? c = some o := fun h1 h2 h3 e => u3.extBut _ _ h2 (u2.extBut _ _ h3 (k1 h1 e))
    have hz3 : IsZip g3 z TI TO .ellipsis := u3.extBut _ _ D.b.symm (u2.extBut _ _ D.c.symm hz1)
    have s3 : St2 i g3 := D2.frame _ _ _ h2 fun c hc o e => List.mem_singleton.mp hc ▸ k3 (c := i2) D.d D.i.symm D.j.symm (List.mem_singleton.mp hc ▸ e)
    have t3 : St1 (i + 1) g3 := D1.frame _ _ _ t1 fun c hc o e => u3.extBut _ _ (List.mem_singleton.mp hc ▸ D.h.symm) e
    by_cases hlt2 : i < n2
    · refine wpAny_bind (D2.item i _ _ _ hlt2 s3 fun y g4 tk4 hP2 t2 u4 => wpAny_pure ?_)
      have hTO4 : IsPair g4 TO x b := u4.extBut _ _ D.i hTO3
      refine wpAny_bind (wpAny_seqItems hTO4 rfl ?_)
      refine wpAny_bind (wpAny_updateSeq_pair hTO4 fun g5 hTO5 u5 => ?_)
      replace hTO5 : IsPair g5 TO x y := hTO5
      refine wpAny_bind (wpAny_letGo (wpAny_pure (wpAny_pure ?_)))
      refine wpAny_bind (wpAny_seqItems hTO5 rfl ?_)
      refine wpAny_bind (wpAny_newTuple ?_)
      have hsz : g5.objs.size = s.heap.objs.size := by rw [u5.1, u4.1, u3.1, u2.1, u1.1]
      have hz5 : IsZip g5 z TI TO .ellipsis := u5.extBut _ _ D.b.symm (u4.extBut _ _ D.d.symm hz3)
      have k5 : ∀ c o, c ≠ z → c ≠ TO → c ≠ i1 → c ≠ i2 → s.heap.get? c = some o → g5.get? c = some o := fun c o c1 c2 c3 c4 e => u5.extBut _ _ c2 (u4.extBut _ _ c4 (k3 c1 c2 c3 e))
      have hzl : z < g5.objs.size := Heap.lt_size hz5
      show wpAny _ _ (Builtin.SmallTypes.ownedTupleHandOut (.ref z) (.ref g5.objs.size) >>= _) _ _ _
      refine wpAny_bind ?_
      unfold Builtin.SmallTypes.ownedTupleHandOut
      have hz6 : IsZip (g5.push { cls := .type "tuple", data := .seq #[x, y] }) z TI TO .ellipsis := Heap.get?_push_of_some _ hz5
      refine wpAny_bind (wpAny_setField_rec hz6 (by simp) fun g7 hz7 u7 => ?_)
      replace hz7 : IsZip g7 z TI TO (rawInt g5.objs.size) := hz7
      refine wpAny_setField_rec hz7 (by simp) fun g8 hz8 u8 => ?_
      replace hz8 : IsZip g8 z TI TO (rawInt g5.objs.size) := hz8
      have up : ∀ c o, c ≠ z → g5.get? c = some o → g8.get? c = some o := fun c o c1 e => u8.extBut _ _ c1 (u7.extBut _ _ c1 (Heap.get?_push_of_some _ e))
      have hT8 : IsPair g8 g5.objs.size x y := u8.extBut _ _ (Nat.ne_of_gt hzl) (u7.extBut _ _ (Nat.ne_of_gt hzl) (Heap.get?_push_size _ rfl))
      rw [hsz] at hz8 hT8
      refine wpAny_pure ⟨_, rfl, ?_⟩
      show Q (.ref g5.objs.size) _
      rw [hsz]
      exact hQ (Nat.lt_min.mpr ⟨hlt, hlt2⟩) g8 _ x y hP1 hP2 hz8 (up _ _ D.b hTO5)
        (D1.frame _ _ _ t3 fun c hc o e => by obtain rfl := List.mem_singleton.mp hc; exact up _ _ D.c (u5.extBut _ _ D.h.symm (u4.extBut _ _ D.j e)))
        (D2.frame _ _ _ t2 fun c hc o e => by obtain rfl := List.mem_singleton.mp hc; exact up _ _ D.d (u5.extBut _ _ D.i.symm e)) hT8 fun c o c1 c2 c3 c4 e => up c o c1 (k5 c o c1 c2 c3 c4 e)
    · obtain rfl : i = n2 := by lia -abstractProof
      refine wpAny_bind (D2.done _ _ _ s3 fun g4 e u4 he => ?_)
      obtain ⟨oe, hoe, hce⟩ := he
      have hz4 : IsZip g4 z TI TO .ellipsis := u4 _ _ D.d.symm hz3
      have hez : e ≠ z := fun q => by subst q; rw [hz4] at hoe; cases hoe; simp at hce
      exact wpAny_setField_rec hz4 (by simp) fun g5 _ u5 => hE (by lia -abstractProof) g5 _ e (fun c o c1 c2 c3 c4 q => u5.extBut _ _ c1 (u4 _ _ c4 (k3 c1 c2 c3 q))) ⟨oe, u5.extBut _ _ hez hoe, hce⟩
  · obtain rfl : i = n1 := by lia -abstractProof
    refine wpAny_bind (D1.done _ _ _ s1 fun g2 e u2 he => ?_)
    obtain ⟨oe, hoe, hce⟩ := he
    have hz2 : IsZip g2 z TI TO .ellipsis := u2 _ _ D.c.symm hz1
    have hez : e ≠ z := fun q => by subst q; rw [hz2] at hoe; cases hoe; simp at hce
    exact wpAny_setField_rec hz2 (by simp) fun g3 _ u3 => hE (by lia -abstractProof) g3 _ e (fun c o c1 c2 c3 c4 q => u3.extBut _ _ c1 (u2 _ _ c3 (k1 c1 q))) ⟨oe, u3.extBut _ _ hez hoe, hce⟩
theorem next_zip {z TI TO i1 i2 : Addr} {n1 n2 i : Nat} {P1 P2 : Nat → Value → Prop} {St1 St2 : Nat → Heap → Prop} {a b : Value} {Q : Option Value → Shared → Prop} (D : Apt z TI TO i1 i2) (D1 : ∀ A' : Around, A'.handled = A.handled → Draws prog w A' i1 [i1] n1 P1 St1) (D2 : ∀ A' : Around, A'.handled = A.handled → Draws prog w A' i2 [i2] n2 P2 St2) (hi : i ≤ min n1 n2)
    (hz : IsZip s.heap z TI TO .none) (hTI : IsPair s.heap TI (.ref i1) (.ref i2)) (hTO : IsPair s.heap TO a b) (h1 : St1 i s.heap) (h2 : St2 i s.heap)
    (hQ : i < min n1 n2 → ∀ h' tk x y, P1 i x → P2 i y → IsZip h' z TI TO (rawInt s.heap.objs.size) → IsPair h' TO x y → St1 (i + 1) h' → St2 (i + 1) h' → IsPair h' s.heap.objs.size x y →
      (∀ c o, c ≠ z → c ≠ TO → c ≠ i1 → c ≠ i2 → s.heap.get? c = some o → h'.get? c = some o) → Q (some (.ref s.heap.objs.size)) { s with heap := h', toks := tk })
    (hE : i = min n1 n2 → ∀ h' tk, (∀ c o, c ≠ z → c ≠ TO → c ≠ i1 → c ≠ i2 → s.heap.get? c = some o → h'.get? c = some o) → Q none { s with heap := h', toks := tk }) :
    wpAny (model prog w) A (pyNext (.ref z)) Q E s := by
  have hT : s.TypeIs (.ref z) "zip" := ⟨_, hz, rfl⟩
  unfold pyNext
  refine wpAny_bind (wpAny_attempt (wpAny_callSpecial?_slot (name := Str.ofString "__next__") hT F.slot_zip_next
    (wpAny_call_entry F.slot_zip_next hT F.entry_zip_next (zip_turn D (D1 _ rfl) (D2 _ rfl) hi hz hTI hTO h1 h2 (fun q h' tk x y a1 a2 a3 a4 a5 a6 a7 a8 => wpAny_pure (hQ q h' tk x y a1 a2 a3 a4 a5 a6 a7 a8)) fun q h' tk e hk he => ?_) (F.args_zip_next_1 _))))
  obtain ⟨o, ho, hc⟩ := he
  refine wpAny_bind (wpAny_isInstance (T := "StopIteration") (b := true) ⟨o, ho, hc⟩ isSubtype_stop ?_)
  exact wpAny_pure (hE q h' tk hk)
theorem draws_text (hh : A.handled = none) (it : Addr) (x : Str) (t : Tok) : Draws prog w A it [it] x.cps.size (fun i v => ∃ c u, x.cps[i]? = some c ∧ v = .str ⟨#[c]⟩ u) (fun i h => h.IsStrIter it (strIterType x) x t i) := by
  cases ha : x.cps.all (· < 128)
  · have e : strIterType x = "str_iterator" := by simp only [strIterType, ha]; rfl
    rw [e]; exact Draws.strWide hh it x t
  · have e : strIterType x = "str_ascii_iterator" := by simp only [strIterType, ha]; rfl
    rw [e]; exact Draws.strAscii hh it x t
noncomputable abbrev zh1 (h : Heap) (x : Str) (t : Tok) : Heap := h.push { cls := .type (strIterType x), data := .fields #[.str x t, .int 0 0] }
noncomputable abbrev zh3 (h : Heap) (x y : Str) (t u : Tok) : Heap := (zh1 (zh1 h x t) y u).push { cls := .type "tuple", data := .seq #[.ref h.objs.size, .ref (zh1 h x t).objs.size] }
noncomputable abbrev zh4 (h : Heap) (x y : Str) (t u : Tok) : Heap := (zh3 h x y t u).push { cls := .type "tuple", data := .seq #[.none, .none] }
noncomputable abbrev zh5 (h : Heap) (x y : Str) (t u : Tok) : Heap := (zh4 h x y t u).push { cls := .type "zip", data := .fields #[.none, .bool false, .bool false, .ref (zh1 (zh1 h x t) y u).objs.size, .ref (zh3 h x y t u).objs.size] }
set_option maxHeartbeats 2000000 in
theorem meets_zipT (x y : Str) (t u : Tok) :
    Meets (Builtin.«zip.__new__» ⟨[.type "zip", .str x t, .str y u], []⟩) (fun _ R s => R (.ok (.ret (.ref (zh4 s.heap x y t u).objs.size))) { s with heap := zh5 s.heap x y t u }) :=
  .of_wp fun prog w A R s h => by
    obtain ⟨hp, g, d, tk, os⟩ := s
    have hsub := sub_zip
    wp_walk using wpAny_pyIter_strU
    exact ⟨_, rfl, h⟩
theorem call_zipT {x y : Str} {t u : Tok} {Q : Value → Shared → Prop}
    (h : ∀ (h' : Heap) (n : Nat), n = s.heap.objs.size → IsZip h' (n + 4) (n + 2) (n + 3) .none → IsPair h' (n + 2) (.ref n) (.ref (n + 1)) → IsPair h' (n + 3) .none .none → h'.IsStrIter n (strIterType x) x t 0 → h'.IsStrIter (n + 1) (strIterType y) y u 0 →
      (∀ c o, s.heap.get? c = some o → h'.get? c = some o) → Q (.ref (n + 4)) { s with heap := h' }) :
    wpAny (model prog w) A (call (.type "zip") [.str x t, .str y u]) Q E s := by
  refine callType_new F.called_zip (by decide) (F.typeCall_zip_2 _ _) (F.newCall_zip_2 _ _) (fun obj => F.args_object_init_3 obj _ _) F.entry_zip_new (meets_zipT x y t u) ?_
  have z1 : (zh1 s.heap x t).objs.size = s.heap.objs.size + 1 := Heap.size_push ..
  have z2 : (zh1 (zh1 s.heap x t) y u).objs.size = s.heap.objs.size + 2 := by rw [Heap.size_push, z1]
  have z3 : (zh3 s.heap x y t u).objs.size = s.heap.objs.size + 3 := by rw [Heap.size_push, z2]
  have z4 : (zh4 s.heap x y t u).objs.size = s.heap.objs.size + 4 := by rw [Heap.size_push, z3]
  have g5 : (zh5 s.heap x y t u).get? (zh4 s.heap x y t u).objs.size = some _ := Heap.get?_push_size _ rfl
  have g4 : (zh5 s.heap x y t u).get? (zh3 s.heap x y t u).objs.size = some _ := Heap.get?_push_of_some _ (Heap.get?_push_size _ rfl)
  have g3 : (zh5 s.heap x y t u).get? (zh1 (zh1 s.heap x t) y u).objs.size = some _ := Heap.get?_push_of_some _ (Heap.get?_push_of_some _ (Heap.get?_push_size _ rfl))
  have g2 : (zh5 s.heap x y t u).get? (zh1 s.heap x t).objs.size = some _ := Heap.get?_push_of_some _ (Heap.get?_push_of_some _ (Heap.get?_push_of_some _ (Heap.get?_push_size _ rfl)))
  have g1 : (zh5 s.heap x y t u).get? s.heap.objs.size = some _ := Heap.get?_push_of_some _ (Heap.get?_push_of_some _ (Heap.get?_push_of_some _ (Heap.get?_push_of_some _ (Heap.get?_push_size _ rfl))))
  show _ ∧ _
  rw [z2, z3, z4] at g5
  rw [z1, z2] at g3
  rw [z3] at g4
  rw [z1] at g2
  rw [z4]
  exact ⟨⟨_, g5, rfl⟩, h _ _ rfl g5 g3 g4 ⟨_, g1, rfl, rfl⟩ ⟨_, g2, rfl, rfl⟩ fun c o q =>
    Heap.get?_push_of_some _ (Heap.get?_push_of_some _ (Heap.get?_push_of_some _ (Heap.get?_push_of_some _ (Heap.get?_push_of_some _ q))))⟩
theorem apt_new (n : Nat) : Apt (n + 4) (n + 2) (n + 3) n (n + 1) := by
  constructor <;> exact fun e => by have e : @Eq Nat _ _ := e; lia -abstractProof
end
end
section
open PySem.Calls PySem.Spec PyProof.Rows.LCg
section
variable {F : Fm} {f : Nat}
theorem KS.stored {T T1 : Sg} {P : XF → List (Str × XV) → List MO → Prop} {s : Shared} {Q : Flow → Shared → Prop} {q : Bool} (K : KS F T P s Q) (G : Gr F q T T1) : KA F T1 (fun l' ob' => P .next l' ob') s fun _ s' => Q .next s' := fun T2 l' ob' hw V' e1 e2 =>
  K T2 _ _ l' ob' hw V' (by unfold Gr; rw [e1, e2]; exact G.no) .next
theorem compN_ok (S : Sy F) {x : Str} {xp : Pos} {v : Expr} {p : Pos} {cp : CP} (hc : compP v = some cp) {l : List (Str × XV)} {ob : List MO} {P : XF → List (Str × XV) → List MO → Prop} (ho : compOk F.c l cp = true) (hx : F.c.names.lookup x = some .local) (hs : (xp.line == cp.pos.line && !(cp.sc.names.any fun p => p.1 == x && (p.2 == .local || p.2 == .cell))) = true)
    (hw : compX F.c f cp l ob fun ys ob2 => P .next ((x, .o ob2.length) :: l) (ob2 ++ [mkL ys])) {s : Shared} {T : Sg} {Q : Flow → Shared → Prop} (V : VR F T l ob) (K : KS F T P s Q) : wpAny F.M F.A (exec (.Assign [.Name x xp] v p) F.env) Q F.E (T.sh s) := by
  obtain rfl := compP_eq hc
  have h1 := and_l hs
  have h2 := and_r hs
  have hun : F.c.un = false := by
    have h1 := and_l ho
    have h1 := and_l h1
    have h1 := and_l h1
    simpa using h1
  have hsw : swapsWith (.ListComp cp.elt [⟨cp.tg, cp.it, cp.ifs, 0⟩] cp.sc cp.pos) (some (.Name x xp)) p.line F.env = pure true := by
    show (pure (F.env.blockKind == .function && F.env.kindOf x == some .local && xp.line == cp.pos.line && !(cp.sc.names.any fun (n, k) => n == x && (k == .local || k == .cell))) : Sem Bool) = pure true
    have e1 : F.env.blockKind = .function := by rw [S.top]; unfold Env.blockKind; rw [show (envX F.cn F.cs F.L F.a F.ccd F.cl).scope.kind = F.cs.kind from rfl, S.hk]; rfl
    rw [e1, S.nm, hx, h1]
    exact congrArg (fun b => (pure (true && b) : Sem Bool)) h2
  rw [exec_Assign_Name_used _ _ _ _ hsw]
  refine wpAny_bind (wpAny_standAt (wpAny_bind ?_))
  show wpAny _ _ (do let _ ← comprehension (.ListComp cp.elt [⟨cp.tg, cp.it, cp.ifs, 0⟩] cp.sc cp.pos) cp.sc F.env _ (newList []) false (eval cp.it F.env) (some (assign (.Name x xp) F.env))) _ _ _
  refine wpAny_bind (wpAny_mono (comp_run S (use := some (assign (.Name x xp) F.env)) (Q := fun _ s' => Q .next s') ho hw V fun T2 D C h tk ad O e ys zs ob' oC m' G2 V3 hN hC0 hCL hr he had hl hd hP => ?_) (fun _ s' hq => wpAny_pure (wpAny_pure hq)) fun _ _ e => e)
  refine wpAny_assign_Name (store_ok S (s := s) (v := .o ob'.length) (P := fun l' ob' => P .next l' ob') hx (by rw [hun]; rfl) hP V3 (.o (by rw [← hl]; simp)) fun T5 l5 ob5 hw V5 e1 e2 => ?_)
  obtain ⟨h5, tk5, m5, ad5, O5, R5⟩ := T5
  obtain rfl : R5 = (C, oC) :: (e ++ T2.R) := e2
  obtain rfl : ad5 = ad ++ [D] := e1
  refine ⟨m', hN.ns (V5.N (C, oC) (mem_r (.head _))).1, fun h' hs' => ?_⟩
  exact K ⟨h', tk5, m5, ad ++ [D], O5, e ++ T2.R⟩ _ _ l5 ob5 hw (vr_letgo S.cm0 V5 hN hC0 hCL hr hs') ((G2.any (q' := false) ⟨fun k b hb _ => ad_left k b (had k b hb), e, he, rfl⟩).no) .next
theorem compT_ok (S : Sy F) {ts : List Expr} {k : Nat} {tp : Pos} {v : Expr} {p : Pos} {cp : CP} (hc : compP v = some cp) {l : List (Str × XV)} {ob : List MO} {P : XF → List (Str × XV) → List MO → Prop} (ho : compOk F.c l cp = true) (hts : ts.all notStar = true)
    (hw : compX F.c f cp l ob fun ys ob2 => optX (allD ys) fun ds => ts.length = ds.length ∧ wAs F.c f ts (ds.map .d) l (ob2 ++ [.lst ds]) fun l' ob3 => P .next l' ob3) {s : Shared} {T : Sg} {Q : Flow → Shared → Prop} (V : VR F T l ob) (K : KS F T P s Q) : wpAny F.M F.A (exec (.Assign [.Tuple ts k tp] v p) F.env) Q F.E (T.sh s) := by
  obtain rfl := compP_eq hc
  refine Assign_Tuple ?_ (by rfl) (by unfold swappedStores; rfl)
  rw [eval_ListComp]
  refine comp_run S (use := none) ho hw V fun T2 D C h tk ad O e ys zs ob' oC m' G2 V3 hN hC0 hCL hr he had hl hd hP => ?_
  refine ⟨m', hN.ns (V3.N (C, oC) (mem_r (.head _))).1, fun h' hs' => ?_⟩
  obtain ⟨ds, hds, hlen, hw⟩ := optX_some hP
  have V4 := vr_letgo S.cm0 V3 hN hC0 hCL hr hs'
  have hT := allD_tall hd hds
  have hmk : mkL zs = .lst ds := by unfold mkL; rw [hds]
  rw [hmk] at V4
  obtain ⟨e1, e2⟩ := each_len (env := F.env) hts
  have hDl : h'.IsList D ys.toArray := ⟨_, (V4.N (D, lst ys) (mem_l (mem_r (.head _)))).1, rfl, _, rfl⟩
  rw [assign_Tuple]
  refine wpAny_bind (wpAny_standAt (unpack_list (s := { s with heap := h', toks := tk }) rfl hDl (by rw [e1, hlen, hT.length]) e2 fun h5 tk5 hk5 => ?_))
  exact (snd_A S f).2 (T := ⟨h5, tk5, _, _, _, _⟩) hw hts (V4.same (tk := tk5) (V4.fr.keeps hk5) fun p hp => ⟨hk5 _ _ (V4.N p hp).1, (V4.N p hp).2⟩) (tall_denL hT) fun T6 l6 ob6 hw V6 e3 e4 => K T6 _ _ l6 ob6 hw V6 (by unfold Gr; rw [e3, e4]; exact (G2.any (q' := false) ⟨fun k b hb _ => ad_left k b (had k b hb), e, he, rfl⟩).no) .next
theorem assign_of (S : Sy F) {ts : List Expr} {v : Expr} {p : Pos} {l : List (Str × XV)} {ob : List MO} {P : XF → List (Str × XV) → List MO → Prop} (hw : wS F.c (f + 1) (.Assign ts v p) l ob P) {s : Shared} {T : Sg} {Q : Flow → Shared → Prop} (V : VR F T l ob) (K : KS F T P s Q) :
    wpAny F.M F.A (exec (.Assign ts v p) F.env) Q F.E (T.sh s) := by
  have H := snd_E S.toSx f
  cases ts with
  | nil => exact (show False from hw).elim
  | cons t r =>
  cases r with
  | cons _ _ => cases t <;> exact (show False from hw).elim
  | nil =>
  cases t with
  | Name x xp =>
    cases hcp : compP v with
    | some cp =>
      replace hw : cond (compP v).isSome (optX (compP v) _) _ := hw
      rw [hcp] at hw
      have h1 := cond_b hw
      have hw := cond_p hw
      have h2 := and_r h1
      have h1 := and_l h1
      have h3 := and_r h2
      have h2 := and_l h2
      exact compN_ok S hcp h1 (beq_iff_eq.mp h2) h3 hw V K
    | none =>
    replace hw : cond (compP v).isSome (optX (compP v) _) _ := hw
    rw [hcp] at hw
    have hc := cond_b hw
    have hw := cond_p hw
    have hn := and_r hc
    have hc := and_l hc
    refine wpAny_Assign_Name (H.e hw V fun T1 u y ob1 hw V1 G1 D1 => ?_) (comp_ok hc _ _ _)
    have hs := cond_b hw
    have hw := cond_p hw
    exact store_ok (P := fun l' ob' => P .next l' ob') S (beq_iff_eq.mp hn) hs hw V1 D1 (K.stored G1)
  | Tuple ts k tp =>
    cases hcp : compP v with
    | some cp =>
      replace hw : cond (compP v).isSome (optX (compP v) _) _ := hw
      rw [hcp] at hw
      have h1 := cond_b hw
      have hw := cond_p hw
      have h2 := and_r h1
      have h1 := and_l h1
      exact compT_ok S hcp h1 h2 hw V K
    | none =>
    replace hw : cond (compP v).isSome (optX (compP v) _) _ := hw
    rw [hcp] at hw
    have hc := cond_b hw
    have hw := cond_p hw
    obtain ⟨sw, hsw, hw⟩ := optX_some hw
    obtain ⟨e1, e2⟩ := swap_ok (env := F.env) (by show (if F.env.scope.kind.isAnnotationScope then ScopeKind.function else F.env.scope.kind) = .function; rw [S.ek]; rfl) S.nm ⟨_, _, _, rfl⟩ hsw
    have hc := fun t n env => comp_ok hc t n env
    cases sw with
    | none =>
      exact Assign_Tuple (H.e hw V fun T1 u y ob1 hw V1 G1 D1 => (snd_A S f).1 (P := fun l' ob' => P .next l' ob') (show wA F.c f _ y l ob1 _ from hw) V1 D1 (K.stored G1)) (by unfold swapsWithSole; exact hc _ _ _) e1
    | some ns =>
      refine Assign_Tuple_swapped (H.e hw V fun T1 u y ob1 hw V1 G1 D1 => ?_) (by unfold swapsWithSole; exact hc _ _ _) e1
      obtain ⟨xs, hx, hw⟩ := optX_some hw
      obtain ⟨hs, hl, hw⟩ := cond_t hw
      obtain ⟨b, vs, n, rfl, hm, Dv⟩ := den_parts hx D1
      exact unpackItemsN_ (s := T1.sh s) (items := vs.toArray) V1.fr V1.N ⟨_, (V1.N _ (V1.mem hm)).1, rfl, n, rfl⟩ rfl (by rw [hl, List.size_toArray, Dv.length]) fun h' F' N' =>
        names_ok (T := ⟨h', _, T1.m, T1.ad, T1.O, T1.R⟩) (ob := ob1) (P := fun l' => P .next l' ob1) S hw (fun x hx => e2 ns rfl x (List.mem_reverse.mp hx)) (fun x hx' => stb_parts hx hs x (List.mem_reverse.mp hx')) (V1.same F' N') Dv.reverse (by rintro T2 l' _ ⟨hw, rfl⟩ V' e1 e2; exact K.stored G1 T2 l' _ hw V' e1 e2)
  | Subscript o i sp =>
    have hc := cond_b hw
    have hw := cond_p hw
    refine wpAny_Assign_Subscript (H.e hw V fun T1 u x ob1 hw V1 G1 D1 => ?_) (comp_ok hc _ _ _)
    have hs := cond_b hw
    have hw := cond_p hw
    refine H.e hw V1 fun T2 u2 y ob2 hw V2 G2 D2 => ?_
    have hs2 := cond_b hw
    have hw := cond_p hw
    refine H.e hw V2 fun T3 u3 z ob3 hw V3 G3 D3 => ?_
    exact setItemX_ok hw V3 (den_grow D2 G3 hs2) D3 (den_grow (den_grow D1 G2 (by rw [hs]; rfl)) G3 (by rw [hs]; rfl)) fun T4 ob4 hw V4 G4 => K T4 _ _ l ob4 hw V4 (((G1.any G2).any G3).any G4) .next
  | Attribute o nm sp =>
    have hc := cond_b hw
    have hw := cond_p hw
    refine plainObj_wpAny_Assign_Attribute (H.e hw V fun T1 u x ob1 hw V1 G1 D1 => ?_) (comp_ok hc _ _ _)
    have hs := cond_b hw
    have hw := cond_p hw
    refine H.e hw V1 fun T2 u2 y ob2 hw V2 G2 D2 => ?_
    exact setAttrX_ok S.X hw V2 D2 (den_grow D1 G2 hs) fun T3 ob3 hw V3 G3 => K T3 _ _ l ob3 hw V3 ((G1.any G2).any G3) .next
  | _ => exact (show False from hw).elim
structure CK (F : Fm) (T : Sg) (W : List Dat → List (Str × XV) → List MO → Prop) (ds : List Dat) (i : Nat) (m : Str → Option Value) (nw : List (Addr × Obj)) (l : List (Str × XV)) (ob : List MO) (ad : List Addr) (O e : List (Addr × Obj)) : Prop where
  tp : Tups e
  nw : nw = O ++ (e ++ T.R)
  vs : VS F m ad O (e ++ T.R) l ob
  adr : ∀ (k : Nat) (b : Addr), T.ad[k]? = some b → (F.c.un = false ∨ k ≠ 2) → ad[k]? = some b
  w : W (ds.drop i) l ob
noncomputable def CJ (F : Fm) (T : Sg) (W : List Dat → List (Str × XV) → List MO → Prop) (ds : List Dat) (i : Nat) (m : Str → Option Value) (nw : List (Addr × Obj)) : Prop := ∃ l ob ad O e, CK F T W ds i m nw l ob ad O e
theorem forC_ok (S : Sy F) (iss : SSs F f) {x : Str} {xp : Pos} {r : Str} {rp cp p : Pos} {a : Expr} {body : List Stmt} {l : List (Str × XV)} {ob : List MO} {P : XF → List (Str × XV) → List MO → Prop} (hx : F.c.names.lookup x = some .cell)
    (hw : nameX F.c r l ob fun g => cond (isRange g && notStar a) (wL F.c f [a] l ob fun xs ob2 => rng1X xs fun ds => forC (fun l ob P => wSs F.c f body l ob P) x P ds l ob2) False) {s : Shared} {T : Sg} {Q : Flow → Shared → Prop} (V : VR F T l ob) (K : KS F T P s Q) : wpAny F.M F.A (exec (.For (.Name x xp) (.Call (.Name r rp) [a] [] cp) body [] p) F.env) Q F.E (T.sh s) := by
  have H := snd_E S.toSx f
  have top := S.top
  have hkx : F.env.kindOf x = some .cell := (S.nm x).trans hx
  have hpe := S.pe
  refine For_invT (s := T.sh s) F.h₀ (Call_ (name_ok S.toSx hw V fun v z hw D => ?_)) (fun y => rfl) hpe
  have h1 := cond_b hw
  have hr := cond_p hw
  have h2 := and_r h1
  have h1 := and_l h1
  obtain rfl := asG_eq (beq_iff_eq.mp h1)
  obtain rfl := den_g D
  refine PyProof.Rows.callWith_type1 (H.l hr V fun T2 vs xs ob2 hw V2 G2 D2 hl => ?_) (star_cons h2 _ _) rfl
  obtain ⟨p, v, rfl, D1, hw⟩ := oneL_of (show optX (oneL xs) _ from hw) D2
  obtain ⟨_, _, rfl, n, ⟨rfl, hsm, hsz⟩, hw⟩ := asI_of hw D1
  refine range1_rows (s := T2.sh s) V2.fr V2.N fun h' tk t₁ u₁ v₁ hrg F' N' hkk => ?_
  refine wpAny_pyIter_range hrg hsm ?_
  have K2 := K.on G2
  have hcm := S.cm0
  have hI0 : F.h₀.get? h'.objs.size = none := next_is_new F'
  have hlc : F.env.locals = F.L := by rw [top]
  have W := (Walks.range (prog := PySem.Challenge.rw_sa0370_02.row.prog) (w := F.w) (A := F.A) rfl h'.objs.size 0 1 n).bound
  refine ⟨_, _, _, n, _, _, T2.m, T2.O ++ T2.R, CJ F T2 (fun ds l ob => forC (fun l ob P => wSs F.c f body l ob P) x P ds l ob) ((List.range n).map fun (k : Nat) => Dat.int k),
    rfl, W, fun hm => ?_, fun b hb => by rw [List.mem_singleton.mp hb]; exact hI0, fun p hp hb => ?_, ?_, ?_, ?_, ?_, ⟨l, ob2, T2.ad, T2.O, [], tups_nil, rfl, V2.st, fun _ _ h _ => h, hw⟩, ?_, ?_⟩
  · rw [hlc] at hm
    exact absurd F'.ns.lt (by rw [List.mem_singleton.mp hm]; exact Nat.lt_irrefl _)
  · exact absurd (Heap.lt_size (N' p hp).1) (by rw [List.mem_singleton.mp hb]; exact Nat.lt_irrefl _)
  · show IsRangeIter _ _ _ _ _
    rw [hsz]
    simpa using Heap.get?_push_size _ rfl
  · rw [hlc]; exact F'.push _
  · rw [hlc]; exact fun p hp => ⟨Heap.get?_push_of_some _ (N' p hp).1, (N' p hp).2⟩
  · intro i s' v Q' _ hQ
    exact wpAny_pure hQ
  · rintro i v m₁ news₁ s₁ own hi ⟨_, t, rfl⟩ ⟨l1, ob1, ad, O, e, he, rfl, V1, ha, hw⟩ hnw hof hog hfo hst F₁ N₁
    rw [hlc] at F₁ N₁
    have hown : ∀ p ∈ own, p.1 = h'.objs.size ∧ NoTup p.2 := fun p hp => by
      have e1 := List.mem_singleton.mp (hof p hp)
      have e2 := hog p hp
      rw [e1] at e2
      have e3 := e2.symm.trans hst
      exact ⟨e1, notup_cls (by rw [Option.some.inj e3]; simp)⟩
    have hmem : ∃ o, (h'.objs.size, o) ∈ own ∧ NoTup o := ⟨_, hfo _ (.head _) hI0 _ hst, (hown _ (hfo _ (.head _) hI0 _ hst)).2⟩
    have V0 : VR F ⟨s₁.heap, s₁.toks, m₁, ad, O, own ++ (e ++ T2.R)⟩ l1 ob1 := (V1.rel (tk := s₁.toks) F₁ fun p hp => N₁ p (mem_r hp)).aside N₁ fun p hp b hb he => by
      obtain ⟨q, hq, rfl⟩ := keys_mem hb
      exact hnw q (mem_l hq) (List.mem_singleton.mpr (he.symm.trans (hown p hp).1))
    have hlen : i < ((List.range n).map fun (k : Nat) => Dat.int k).length := by simpa using hi
    rw [List.drop_eq_getElem_cons hlen, List.getElem_map, List.getElem_range] at hw
    refine wpAny_assign_Name (storeC_ok S (s := s₁) (P := fun l ob => wSs F.c f body l ob (nextX fun l' ob' => forC (fun l ob P => wSs F.c f body l ob P) x P (((List.range n).map fun (k : Nat) => Dat.int k).drop (i + 1)) l' ob')) (v := .d (.int i)) hx (show onK x l1 ob1 _ from hw) V0 (.d (by rw [show (0 : Int) + (i : Nat) * 1 = (i : Int) by lia -abstractProof]; exact .int _ _)) fun T3 l' ob' hw V3 e1 e2 => iss hw V3 fun T4 fl xf l4 ob4 hw V4 G4 D4 => ?_)
    cases D4 with
    | ret _ => exact (show False from hw).elim
    | next =>
    obtain ⟨h4, tk4, m4, ad4, O4, R4⟩ := T4
    obtain ⟨e4, he4, hR⟩ := G4.ext
    have hR : R4 = e4 ++ (own ++ (e ++ T2.R)) := hR.trans (congrArg (e4 ++ ·) e2)
    subst hR
    have t1 : TSub (e4 ++ (own ++ (e ++ T2.R))) (e4 ++ (e ++ T2.R)) := tsub_mid fun p hp => (hown p hp).2
    have V5 := V4.drop hcm (R' := e4 ++ (e ++ T2.R)) (fun p hp => mem_skip hp) t1
    obtain ⟨oI, hoI, hnI⟩ := hmem
    refine ⟨rfl, h4, tk4, m4, O4 ++ (e4 ++ (e ++ T2.R)), rfl, by rw [hlc]; exact V4.fr, ?_, ?_, l4, ob4, ad4, O4, e4 ++ e, tups_app he4 he, by rw [List.append_assoc], by rw [List.append_assoc]; exact V5.st, fun k b hb hc => ?_, hw⟩
    · rw [hlc]
      exact fun p hp => V4.N p ((List.mem_append.mp hp).elim (fun hp => mem_r (mem_r (mem_l hp))) fun hp => (List.mem_append.mp hp).elim mem_l fun hp => mem_r (mem_skip hp))
    · intro p hp hb
      have hb := List.mem_singleton.mp hb
      rcases List.mem_append.mp hp with hp | hp
      · exact V4.off _ (mem_r (mem_l hoI)) p.1 (mem_keys hp) hb.symm
      · rcases List.mem_append.mp hp with hp | hp
        · exact he4.offI V4.N (mem_r (mem_r (mem_l hoI))) hnI (fun p hp => mem_r (mem_l hp)) p hp hb
        · exact hnw p (mem_r hp) (List.mem_singleton.mpr hb)
    · refine G4.adr k b ?_ (.inr hc)
      rw [e1]; exact ha k b hb hc
  · rintro h2 tk2 m' news' F₂ N₂ _ ⟨l1, ob1, ad, O, e, he, rfl, V1, ha, hw⟩
    rw [hlc] at F₂ N₂
    rw [List.drop_eq_nil_of_le (by simp)] at hw
    exact K2 ⟨h2, tk2, m', ad, O, e ++ T2.R⟩ _ _ l1 ob1 hw (V1.rel F₂ N₂) ⟨fun k b hb hc => ha k b hb (hc.resolve_left (fun h => nomatch h)), e, he, rfl⟩ .next
theorem isFa_eq {z : XV} (h : isFa z = true) : z = .d (.bool false) := by
  unfold isFa at h
  split at h
  · rename_i b; cases b; rfl; cases h
  · cases h
theorem zip_body (S : Sy F) {a b o nm : Str} {body : List Stmt} (hB : ZipB body a b o nm) (la : F.c.names.lookup a = some .local) (lb : F.c.names.lookup b = some .local) (lo : F.c.names.lookup o = some .local) {l : List (Str × XV)} {ob : List MO} {c d : Nat} {v : XV} (ha : l.lookup a = some (.d (.str ⟨#[c]⟩))) (hb : l.lookup b = some (.d (.str ⟨#[d]⟩))) (ho : l.lookup o = some v)
    (hw : attrX v nm ob fun y => isFa y = true) {s : Shared} {T : Sg} {Q : Flow → Shared → Prop} (V : VR F T l ob) (K1 : c = d → ∀ tk, Q .next ((T.tok tk).sh s)) (K2 : c ≠ d → ∀ tk, Q (.ret .none) ((T.tok tk).sh s)) : wpAny F.M F.A (execs body F.env) Q F.E (T.sh s) := by
  obtain ⟨p1, p2, p3, p4, p5, r, p6, p7, p8, k, p9, p10, p11, rfl⟩ := hB
  have nx : ∀ {x v} {T : Sg}, F.c.names.lookup x = some .local → l.lookup x = some v → nameX F.c x l ob (fun z => z = v) := fun h1 h2 => by
    unfold nameX; rw [h1, h2]; exact rfl
  have key : wpAny F.M F.A (PySem.isTrue (.BoolOp .And [.Compare (.Name a p1) [.NotEq] [.Name b p2] p3, .UnaryOp .Not (.BoolOp .And (.Attribute (.Name o p4) nm p5 :: r) p6) p7] p8) F.env (eval (.BoolOp .And [.Compare (.Name a p1) [.NotEq] [.Name b p2] p3, .UnaryOp .Not (.BoolOp .And (.Attribute (.Name o p4) nm p5 :: r) p6) p7] p8) F.env)) (fun t s' => ∃ tk, s' = (T.tok tk).sh s ∧ (t = true ↔ c ≠ d)) F.E (T.sh s) := by
    refine isTrue_and (wpAny_isTrue_Compare1 (name_ok S.toSx (nx (T := T) la ha) V fun r1 z1 hz1 D1 => name_ok S.toSx (nx (T := T) lb hb) V fun r2 z2 hz2 D2 => ?_) rfl)
    subst hz1 hz2
    refine cmpX_ok (P := fun t => t = ((⟨#[c]⟩ : Str) != ⟨#[d]⟩)) (big := F.c.big) (op := .NotEq) (show cmpX F.c.big .NotEq (.d (.str ⟨#[c]⟩)) (.d (.str ⟨#[d]⟩)) ob (fun t => t = ((⟨#[c]⟩ : Str) != ⟨#[d]⟩)) from rfl) V (by have := S.hu; show F.uu < _; lia -abstractProof) (fun h => by have := S.hu; have := S.big h; show F.uu + 64 < _; lia -abstractProof) D1 D2 fun t tk ht => wpAny_truthy_bool ?_
    subst ht
    by_cases hcd : c = d
    · rw [if_neg (by rw [hcd]; simp)]
      exact ⟨tk, rfl, by simp [hcd]⟩
    · rw [if_pos (by simp [bne_iff_ne, hcd])]
      refine isTrue_and (isTrue_not (isTrue_and (isTrue_plain (Attribute_Name_ (name_ok (T := T.tok tk) S.toSx (nx (T := T) lo ho) V.tok fun r3 z3 hz3 D3 => ?_)) rfl)))
      subst hz3
      refine attrX_ok S.X hw (V.tok (tk := tk)) D3 fun tk2 r4 z4 hz4 D4 => ?_
      obtain rfl := isFa_eq hz4
      obtain rfl := den_bool D4
      refine wpAny_truthy_bool ?_
      rw [if_neg Bool.false_ne_true]
      rw [if_pos (show (!false) = true from rfl)]
      exact isTrue_and_nil ⟨tk2, rfl, by simp [hcd]⟩
  refine wpAny_execs_cons (wpAny_If (wpAny_mono key (fun t s' ht => ?_) fun _ _ e => e))
  obtain ⟨tk, rfl, ht⟩ := ht
  cases t with
  | true =>
    rw [if_pos rfl]
    exact wpAny_execs_cons (wpAny_Return_some (wpAny_Constant_none (K2 (ht.mp rfl) tk)))
  | false =>
    rw [if_neg Bool.false_ne_true]
    exact wpAny_execs_nil (wpAny_execs_nil (K1 (Classical.byContradiction fun h => Bool.false_ne_true (ht.mpr h)) tk))
structure ZS (F : Fm) (T : Sg) (n : Nat) (x y : Str) (t t' : Tok) (o a b : Str) (w : XV) (P : XF → List (Str × XV) → List MO → Prop) (ob : List MO) (h : Heap) (tk : Nat) (m : Str → Option Value) (l : List (Str × XV)) (i : Nat) : Prop where
  hi : i ≤ min x.cps.size y.cps.size
  z : IsZip h (n + 4) (n + 2) (n + 3) .none
  ti : IsPair h (n + 2) (.ref n) (.ref (n + 1))
  to : ∃ a b, IsPair h (n + 3) a b
  s1 : h.IsStrIter n (strIterType x) x t i
  s2 : h.IsStrIter (n + 1) (strIterType y) y t' i
  vr : VR F ⟨h, tk, m, T.ad, T.O, T.R⟩ l ob
  lo : l.lookup o = some w
  fz : forZ a b P ((x.cps.toList.zip y.cps.toList).drop i) l ob
noncomputable def ZI (F : Fm) (T : Sg) (n : Nat) (x y : Str) (t t' : Tok) (o a b : Str) (w : XV) (P : XF → List (Str × XV) → List MO → Prop) (ob : List MO) (s : Shared) (k : Nat) (s' : Shared) : Prop := ∃ h tk m l i, s' = { s with heap := h, toks := tk } ∧ k = min x.cps.size y.cps.size + 1 - i ∧ ZS F T n x y t t' o a b w P ob h tk m l i
theorem forZ_ok (S : Sy F) {a b o nm : Str} {ap bp tp : Pos} {k : Nat} {r : Str} {rp cp p : Pos} {e1 e2 : Expr} {body : List Stmt} {l : List (Str × XV)} {ob : List MO} {P : XF → List (Str × XV) → List MO → Prop} (ha : F.c.names.lookup a = some .local) (hb : F.c.names.lookup b = some .local) (ho : F.c.names.lookup o = some .local) (hab : a ≠ b) (hoa : o ≠ a) (hob : o ≠ b) (h1 : notStar e1 = true) (h2 : notStar e2 = true) (hB : ZipB body a b o nm)
    (hw : nameX F.c r l ob fun g => cond (isZip g) (wL F.c f [e1, e2] l ob fun xs ob2 => optX (twoL xs) fun p => optX (asS p.1) fun s1 => optX (asS p.2) fun s2 => optX (l.lookup o) fun v => (attrX v nm ob2 fun y => isFa y = true) ∧ forZ a b P (s1.cps.toList.zip s2.cps.toList) l ob2) False) {s : Shared} {T : Sg} {Q : Flow → Shared → Prop} (V : VR F T l ob) (K : KS F T P s Q) :
    wpAny F.M F.A (exec (.For (.Tuple [.Name a ap, .Name b bp] k tp) (.Call (.Name r rp) [e1, e2] [] cp) body [] p) F.env) Q F.E (T.sh s) := by
  have H := snd_E S.toSx f
  have hpe := S.pe
  have hlc : F.env.locals = F.L := by rw [S.top]
  refine wpAny_For (Call_ (name_ok S.toSx hw V fun v z hw D => ?_)) (fun y => rfl)
  have hg := cond_b hw
  have hr := cond_p hw
  obtain rfl := asG_eq (beq_iff_eq.mp hg)
  obtain rfl := den_g D
  refine PyProof.Rows.callWith_type1 (H.l hr V fun T2 vs xs ob2 hw V2 G2 D2 hl => ?_) (star_cons h1 _ _) (no_star (by show (notStar e2 && true) = true; rw [h2]; rfl))
  obtain ⟨p, v, u, rfl, D3, D4, hw⟩ := twoL_of (show optX (twoL xs) _ from hw) D2
  obtain ⟨x, t, rfl, hw⟩ := asS_of hw D3
  obtain ⟨y, t', rfl, hw⟩ := asS_of hw D4
  obtain ⟨w, hlo, hat, hw⟩ := optX_some hw
  refine call_zipT (s := T2.sh s) fun h' n hn hz hTI hTO hs1 hs2 hk => wpAny_pyIter_zip hz ?_
  have hL : @LT.lt Nat _ F.L n := by rw [hn]; exact V2.fr.ns.lt
  have hI : ∀ b o, F.h₀.get? b = some o → @LT.lt Nat _ b n ∧ b ≠ F.L := fun b o e => ⟨by rw [hn]; exact Heap.lt_size (V2.fr.keep b o e), Nat.ne_of_lt (Nat.lt_of_lt_of_le (Heap.lt_size e) V2.fr.above)⟩
  have hR : ∀ p ∈ T2.O ++ T2.R, @LT.lt Nat _ p.1 n := fun p hp => by rw [hn]; exact Heap.lt_size (V2.N p hp).1
  have off : ∀ {b : Addr}, @LT.lt Nat _ b n → b ≠ n + 4 ∧ b ≠ n + 3 ∧ b ≠ n ∧ b ≠ n + 1 := fun {b} hb => ⟨fun e => by have e : @Eq Nat b (n + 4) := e; lia -abstractProof, fun e => by have e : @Eq Nat b (n + 3) := e; lia -abstractProof, fun e => by have e : @Eq Nat b n := e; lia -abstractProof, fun e => by have e : @Eq Nat b (n + 1) := e; lia -abstractProof⟩
  have ap := apt_new n
  refine codeAny_forLoop_any (R := fun r s' => match r with | .ok f => Q f s' | .error e => cameBackBy F.M F.A F.env F.E e s')
    (ZI F T2 n x y t t' o a b w P ob2 s) ?_ _
    ⟨h', T2.tk, T2.m, l, 0, rfl, rfl, Nat.zero_le _, hz, hTI, ⟨_, _, hTO⟩, hs1, hs2, V2.same (V2.fr.keeps hk) fun p hp => ⟨hk _ _ (V2.N p hp).1, (V2.N p hp).2⟩, hlo, hw⟩
  rintro k s' ⟨h, tk, m, l1, i, rfl, rfl, hi, hz, hTI, ⟨a0, b0, hTO⟩, hs1, hs2, V1, hlo, hw⟩
  refine next_zip (s := { s with heap := h, toks := tk }) ap (fun A' hA => draws_text (hA.trans rfl) _ _ _) (fun A' hA => draws_text (hA.trans rfl) _ _ _) hi hz hTI hTO hs1 hs2 ?_ ?_
  · rintro hlt h3 tk3 _ _ ⟨c, u1, hc, rfl⟩ ⟨d, u2, hd, rfl⟩ hz3 hTO3 t1 t2 hT hk3
    refine wpAny_letOwnedTupleGo_zip hz3 fun h4 hz4 u4 => ?_
    have hn4 : @LT.lt Nat _ n h.objs.size := by have : @LT.lt Nat _ (n + 4) h.objs.size := Heap.lt_size hz; lia -abstractProof
    have hT4 : h4.IsTuple h.objs.size #[.str ⟨#[c]⟩ u1, .str ⟨#[d]⟩ u2] := ⟨_, u4.extBut _ _ (Nat.ne_of_gt (Heap.lt_size hz)) hT, rfl, _, rfl⟩
    have k4 : ∀ b o, b ≠ n + 4 → b ≠ n + 3 → b ≠ n → b ≠ n + 1 → h.get? b = some o → h4.get? b = some o := fun b o c1 c2 c3 c4 e => u4.extBut _ _ c1 (hk3 b o c1 c2 c3 c4 e)
    refine kcp_assign (env := F.env) (m := m) rfl hT4 ((S.nm a).trans ha) ((S.nm b).trans hb) (by rw [S.ek]; rfl) (by rw [hlc]; obtain ⟨q1, q2, q3, q4⟩ := off hL; exact V1.fr.ns.at' fun o e => k4 _ o q1 q2 q3 q4 e) fun h5 tk5 hn5 hk5 => wpAny_passesOwn hpe ?_
    rw [hlc] at hn5 hk5
    have k5 : ∀ b o, @LT.lt Nat _ b n → b ≠ F.L → h.get? b = some o → h5.get? b = some o := fun b o hb hbL e => by obtain ⟨q1, q2, q3, q4⟩ := off hb; exact hk5 b o hbL (k4 b o q1 q2 q3 q4 e)
    have z5 : ∀ {b : Addr}, @LT.lt Nat _ F.L b → b ≠ F.L := fun hb => Ne.symm (Nat.ne_of_lt hb)
    have F5 : Fr F.h₀ F.L h5 (fun z => if z = b then some (.str ⟨#[d]⟩ u2) else if z = a then some (.str ⟨#[c]⟩ u1) else m z) := ⟨hn5, fun b o e => k5 b o (hI b o e).1 (hI b o e).2 (V1.fr.keep b o e), V1.fr.above⟩
    have N5 : News F.h₀ F.L h5 (T2.O ++ T2.R) := fun p hp => ⟨k5 _ _ (hR p hp) (V1.N p hp).2.1 (V1.N p hp).1, (V1.N p hp).2⟩
    have V5 : VR F ⟨h5, tk5, _, T2.ad, T2.O, T2.R⟩ ((b, .d (.str ⟨#[d]⟩)) :: (a, .d (.str ⟨#[c]⟩)) :: l1) ob2 := ((V1.st.put S.cm0 ha (u := .str ⟨#[c]⟩ u1) (.d (.str _ _)) rfl).put S.cm0 hb (u := .str ⟨#[d]⟩ u2) (.d (.str _ _)) rfl).rel (tk := tk5) F5 N5
    have hget : (x.cps.toList.zip y.cps.toList)[i]? = some (c, d) := by
      rw [List.getElem?_zip_eq_some]
      exact ⟨by simpa using hc, by simpa using hd⟩
    have hdrop : (x.cps.toList.zip y.cps.toList).drop i = (c, d) :: (x.cps.toList.zip y.cps.toList).drop (i + 1) := by
      obtain ⟨hh, e⟩ := List.getElem?_eq_some_iff.mp hget
      rw [List.drop_eq_getElem_cons hh, e]
    rw [hdrop] at hw
    refine zip_body (s := { s with heap := h5, toks := tk5 }) S hB ha hb ho (l := ((b, .d (.str ⟨#[d]⟩)) :: (a, .d (.str ⟨#[c]⟩)) :: l1)) (c := c) (d := d) (v := w) ?_ ?_ ?_ hat V5 (fun hcd tk6 => ?_) fun hcd tk6 => ?_
    · rw [List.lookup_cons, beq_eq_false_iff_ne.mpr hab, List.lookup_cons_self]
    · rw [List.lookup_cons_self]
    · rw [List.lookup_cons, beq_eq_false_iff_ne.mpr hob, List.lookup_cons, beq_eq_false_iff_ne.mpr hoa]; exact hlo
    · refine ⟨min x.cps.size y.cps.size + 1 - (i + 1), by lia -abstractProof, h5, tk6, _, _, i + 1, rfl, rfl, hlt, ?_, ?_, ⟨.str ⟨#[c]⟩ u1, .str ⟨#[d]⟩ u2, ?_⟩, ?_, ?_, V5.tok, ?_, ?_⟩
      · exact hk5 _ _ (z5 (by lia -abstractProof)) hz4
      · exact hk5 _ _ (z5 (by lia -abstractProof)) (k4 _ _ ap.a ap.e ap.f ap.g hTI)
      · exact hk5 _ _ (z5 (by lia -abstractProof)) (u4.extBut _ _ ap.b hTO3)
      · obtain ⟨o, ho, r⟩ := t1
        exact ⟨o, hk5 _ _ (z5 hL) (u4.extBut _ _ ap.c ho), r⟩
      · obtain ⟨o, ho, r⟩ := t2
        exact ⟨o, hk5 _ _ (z5 (by lia -abstractProof)) (u4.extBut _ _ ap.d ho), r⟩
      · rw [List.lookup_cons, beq_eq_false_iff_ne.mpr hob, List.lookup_cons, beq_eq_false_iff_ne.mpr hoa]; exact hlo
      · have hw : cond (c == d) _ _ := hw
        rw [hcd, beq_self_eq_true] at hw
        rw [hcd]; exact hw
    · have hw : cond (c == d) _ _ := hw
      rw [beq_eq_false_iff_ne.mpr hcd] at hw
      exact K ⟨h5, tk6, _, T2.ad, T2.O, T2.R⟩ _ _ _ ob2 hw V5.tok G2.no (.ret (.d .none))
  · rintro rfl h3 tk3 hk3
    refine wpAny_execs_nil ?_
    rw [List.drop_eq_nil_of_le (by rw [List.length_zip]; simp)] at hw
    have F3 : Fr F.h₀ F.L h3 m := ⟨V1.fr.ns.at' fun o e => by obtain ⟨q1, q2, q3, q4⟩ := off hL; exact hk3 _ o q1 q2 q3 q4 e, fun b o e => by obtain ⟨q1, q2, q3, q4⟩ := off (hI b o e).1; exact hk3 b o q1 q2 q3 q4 (V1.fr.keep b o e), V1.fr.above⟩
    have N3 : News F.h₀ F.L h3 (T2.O ++ T2.R) := fun p hp => ⟨by obtain ⟨q1, q2, q3, q4⟩ := off (hR p hp); exact hk3 _ _ q1 q2 q3 q4 (V1.N p hp).1, (V1.N p hp).2⟩
    exact K ⟨h3, tk3, m, T2.ad, T2.O, T2.R⟩ _ _ l1 ob2 hw (V1.st.rel F3 N3) G2.no .next
theorem forT_ok (S : Sy F) {ts : List Expr} {k : Nat} {tp : Pos} {it : Expr} {body : List Stmt} {p : Pos} {l : List (Str × XV)} {ob : List MO} {P : XF → List (Str × XV) → List MO → Prop} (hw : wS F.c (f + 1) (.For (.Tuple ts k tp) it body [] p) l ob P) {s : Shared} {T : Sg} {Q : Flow → Shared → Prop} (V : VR F T l ob) (K : KS F T P s Q) :
    wpAny F.M F.A (exec (.For (.Tuple ts k tp) it body [] p) F.env) Q F.E (T.sh s) := by
  obtain ⟨⟨a, b⟩, hab, hw⟩ := optX_some (show optX (twoN ts) _ from hw)
  obtain ⟨⟨r, e1, e2⟩, hz, hw⟩ := optX_some hw
  obtain ⟨o, nm, hB, hw⟩ := hw
  have h0 := cond_b hw
  have hw9 := cond_p hw
  have h1 := and_r h0
  have h0 := and_l h0
  have h2 := and_l h0
  have h3 := and_r h0
  have h4 := and_l h1
  have h7 := and_r h1
  have h1 := and_r h4
  have h4 := and_l h4
  have h5 := and_l h1
  have h6 := and_r h1
  have h10 := and_l h7
  have h11 := and_r h7
  have h12 := and_r h11
  have h11 := and_l h11
  obtain ⟨rp, cp, rfl⟩ := range_call hz
  obtain ⟨ap, bp, rfl⟩ := two_names hab
  exact forZ_ok S (beq_iff_eq.mp h2) (beq_iff_eq.mp h3) (beq_iff_eq.mp h10) (bne_iff_ne.mp h4) (bne_iff_ne.mp h11) (bne_iff_ne.mp h12) h5 h6 hB hw9 V K
theorem stmt_of (S : Sy F) (iss : SSs F f) : SS F (f + 1) := by
  intro st l ob P hw s T Q V K
  have H := snd_E S.toSx f
  cases st with
  | Expr e p =>
    have hc := cond_b hw
    have hw := cond_p hw
    exact wpAny_Expr_any (H.e hw V fun T1 v x ob1 hw V1 G1 _ => K T1 _ _ l ob1 hw V1 G1.no .next) (by show (F.env.scope.kind == .module && _) = false; rw [S.ek]; rfl) (comp_ok hc _ _ _)
  | If t b e p =>
    refine wpAny_If (H.b (show wB F.c f t l ob _ from hw) V fun T1 t ob1 hw V1 G1 => ?_)
    cases t with
    | true => exact iss hw V1 (K.on G1)
    | false => exact iss hw V1 (K.on G1)
  | Return e p =>
    cases e with
    | none => exact wpAny_Return_none (K T _ _ l ob hw V .refl (.ret (.d .none)))
    | some e => exact wpAny_Return_some (H.e hw V fun T1 v x ob1 hw V1 G1 D1 => K T1 _ _ l ob1 hw V1 G1.no (.ret D1))
  | Assign ts v p => exact assign_of S hw V K
  | AugAssign t op v p =>
    cases t with
    | Name x xp =>
      have hn := cond_b hw
      have hw := cond_p hw
      obtain ⟨a0, ha, hw⟩ := optX_some hw
      have hs := cond_b hw
      have hw := cond_p hw
      obtain ⟨u, hu, hd, _⟩ := V.loc _ _ ha
      have hx := beq_iff_eq.mp hn
      have hu := (Rd.top hx S.cm0).mp hu
      have hlc : F.env.locals = F.L := by rw [S.top]
      refine wpAny_AugAssign_Name (wpAny_loadName_local S.ek ((S.nm x).trans hx) (by rw [hlc]; exact V.fr.ns) hu ?_)
      refine H.e hw V fun T1 u2 y ob1 hw V1 G1 D1 => ?_
      refine iopX_ok hw (den_grow hd G1 (by rw [hs]; rfl)) D1 fun tk r z hw D => ?_
      have hs2 := cond_b hw
      have hw := cond_p hw
      exact store_ok (T := T1.tok tk) (P := fun l' ob' => P .next l' ob') S (beq_iff_eq.mp hn) hs2 hw V1.tok D (K.stored (T1 := T1.tok tk) G1)
    | Attribute o nm sp =>
      refine wpAny_AugAssign_AttributeAny (H.e (show wE F.c f o l ob _ from hw) V fun T1 u x ob1 hw V1 G1 D1 => ?_)
      refine attrX_ok S.X hw V1 D1 fun tk2 u2 y hw D2 => ?_
      have hs := cond_b hw
      have hw := cond_p hw
      have hs1 := and_l hs
      have hs2 := and_r hs
      refine H.e hw (V1.tok (tk := tk2)) fun T3 u3 z ob3 hw V3 G3 D3 => ?_
      refine iopX_ok hw (den_grow D2 G3 (by rw [hs2]; rfl)) D3 fun tk r z hw D => ?_
      exact setAttrX_ok (T := T3.tok tk) S.X hw V3.tok (den_grow D1 G3 (by rw [hs1]; rfl)) D fun T4 ob4 hw V4 G4 => K T4 _ _ l ob4 hw V4 ((G1.any G3).any G4) .next
    | _ => exact (show False from hw).elim
  | For t it body oe p =>
    cases oe with
    | cons _ _ => cases t <;> exact (show False from hw).elim
    | nil =>
    cases t with
    | Name x xp =>
      cases hcl : F.c.names.lookup x == some .cell with
      | true =>
        replace hw : cond (F.c.names.lookup x == some .cell) _ _ := hw
        rw [hcl] at hw
        obtain ⟨⟨r, ea⟩, hr1, hw⟩ := optX_some (show optX (rangeOf1 it) _ from hw)
        obtain ⟨rp, cp, rfl⟩ := range_call1 hr1
        exact forC_ok S iss (beq_iff_eq.mp hcl) hw V K
      | false =>
      replace hw : cond (F.c.names.lookup x == some .cell) _ _ := hw
      rw [hcl] at hw
      have hc := cond_b hw
      have hv := cond_p hw
      have hn := and_l hc
      have hna := and_r hc
      have hx := beq_iff_eq.mp hn
      have hkx : F.env.kindOf x = some .local := (S.nm x).trans hx
      have hk : (F.env.scope.kind == .class || (F.env.scope.kind == .module && (F.env.locals != F.env.globals))) = false := by rw [S.ek]; rfl
      have hlc : F.env.locals = F.L := by rw [S.top]
      have VF : Fr F.h₀ F.env.locals T.h T.m := by rw [hlc]; exact V.fr
      cases hrg : rangeOf it with
      | some q =>
        obtain ⟨r, ea, eb⟩ := q
        rw [hrg] at hv
        obtain ⟨rp, cp, rfl⟩ := range_call hrg
        refine For_invVF (s := T.sh s) VF hkx hk (Call_ (name_ok S.toSx hv V fun v z hw D => ?_)) (fun y => rfl) S.pe
        have h1 := cond_b hw
        have hr := cond_p hw
        have h23 := and_r h1
        have h1 := and_l h1
        have h2 := and_l h23
        have h3 := and_r h23
        obtain rfl := asG_eq (beq_iff_eq.mp h1)
        obtain rfl := den_g D
        exact PyProof.Rows.callWith_type1 (H.l hr V fun T2 vs xs ob2 hw V2 G2 D2 hl => rng_ok hlc hw V2 D2 fun T3 hz V3 G3 => K T3 .next _ _ _ hz V3 (G2.any G3) .next) (star_cons h2 _ _) (no_star (by show (notStar eb && true) = true; rw [h3]; rfl))
      | none =>
        rw [hrg] at hv
        exact For_invVF (s := T.sh s) VF hkx hk (H.e (show wE F.c f it l ob _ from hv) V fun T1 u v ob1 hw V1 G1 D1 => iter_ok S.cm0 hlc iss hx hw V1 D1 (K.on G1)) (fun y => by cases it <;> first | rfl | cases hna) S.pe
    | Tuple ts k tp => exact forT_ok S hw V K
    | _ => exact (show False from hw).elim
  | While t body oe p =>
    cases oe with
    | cons _ _ => exact (show False from hw).elim
    | nil =>
    obtain ⟨I, n, l0, hs0, h0, turn⟩ := (show ∃ (I : List (Str × XV) → List MO → Nat → Prop) (n : Nat) (l0 : List (Str × XV)), subL l0 l ∧ I l0 ob n ∧ ∀ l1 ob1 n1, I l1 ob1 n1 → wB F.c f t l1 ob1 fun t ob2 => cond t (wSs F.c f body l1 ob2 (turnX P I n1)) (P .next l1 ob2) from hw)
    have hlc : F.env.locals = F.L := by rw [S.top]
    have VF : Fr F.h₀ F.env.locals T.h T.m := by rw [hlc]; exact V.fr
    have VN : News F.h₀ F.env.locals T.h (T.O ++ T.R) := by rw [hlc]; exact V.N
    refine While_inv2 (s := T.sh s) (fun n m1 nw => ∃ l1 ob1 T1, T1.m = m1 ∧ nw = T1.O ++ T1.R ∧ VS F T1.m T1.ad T1.O T1.R l1 ob1 ∧ I l1 ob1 n ∧ Gr F false T T1) (n₀ := n) VF VN ⟨l0, ob, T, rfl, rfl, (V.sub hs0).st, h0, .refl⟩ ?_ S.pe
    rintro n m1 _ h1 tk1 F1 N1 ⟨l1, ob1, T1, rfl, rfl, V1, hI, G1⟩
    rw [hlc] at F1 N1
    refine H.b (T := ⟨h1, tk1, T1.m, T1.ad, T1.O, T1.R⟩) (turn l1 ob1 n hI) (V1.rel F1 N1) fun T2 t ob2 hw V2 G2 => ?_
    have G2 := G1.any G2
    cases t with
    | false => exact K T2 _ _ l1 ob2 hw V2 G2 .next
    | true =>
      rw [if_pos rfl]
      refine iss hw V2 fun T3 fl xf l3 ob3 hw V3 G3 D3 => ?_
      have G3 := G2.any G3
      have go : (∃ n' l', n' < n ∧ subL l' l3 ∧ I l' ob3 n') → ∃ h' tk' m' news' n', T3.sh s = { T.sh s with heap := h', toks := tk' } ∧ Fr F.h₀ F.env.locals h' m' ∧ News F.h₀ F.env.locals h' news' ∧ n' < n ∧ ∃ l1 ob1 T1, T1.m = m' ∧ news' = T1.O ++ T1.R ∧ VS F T1.m T1.ad T1.O T1.R l1 ob1 ∧ I l1 ob1 n' ∧ Gr F false T T1 := by
        rintro ⟨n', l', hn, hsl, hI'⟩
        rw [hlc]; exact ⟨T3.h, T3.tk, T3.m, _, n', rfl, V3.fr, V3.N, hn, l', ob3, T3, rfl, rfl, (V3.sub hsl).st, hI', G3⟩
      cases D3 with
      | next => exact go hw
      | ret D => exact K T3 _ _ _ _ hw V3 G3 (.ret D)
  | _ => exact (show False from hw).elim
theorem snd_S (S : Sy F) (f : Nat) : SS F f ∧ SSs F f := by
  induction f with
  | zero => exact ⟨fun h => (show False from h).elim, fun h => (show False from h).elim⟩
  | succ f ih => exact ⟨stmt_of S ih.2, stmts_of ih.1 ih.2⟩
end
end
section
open PySem.Calls PySem.Spec
noncomputable def retX (P : XV → List MO → Prop) : XF → List (Str × XV) → List MO → Prop
  | .ret x, _, ob => P x ob
  | .next, _, ob => P (.d .none) ob
noncomputable def scopeOk (sc : Scope) (ps : List Str) : Bool :=
  !sc.isCoroutine && !sc.isGenerator && sc.kind == .function && (sc.names.all fun x => x.2 != .cell && x.1 != "__debug__") && ps.all fun x => sc.names.lookup x == some .local
structure FnAt (w : World) (f : Addr) (ps : List Str) (body : List Stmt) (sc : Scope) : Prop where
  get : ∃ (oc : Value) (od : Option Addr) (osl : Array (Option Value)) (name qual : Str) (params : Arguments) (dV kV doc pm : Value) (an : Option Addr) (cdv ct : Value),
    List.lookup f (heap w.params) = some ⟨oc, od, .func (fnOf name qual params body sc dV kV doc pm an cdv ct), osl⟩ ∧ codeIn (heap w.params) cdv qual = true ∧
      ∀ vs : List Value, vs.length = ps.length → ∀ s, BindsTo s (fnOf name qual params body sc dV kV doc pm an cdv ct) ⟨vs, []⟩ (ps.zip vs)
  ok : scopeOk sc ps = true
theorem zip_lookup {ad : List Addr} {R : List (Addr × Obj)} {un : Bool} {vs : List Value} {xs : List XV} (D : DenL ad R vs xs) : ∀ {ps : List Str} {l : List (Str × XV)} {m : List (Str × Value)}, (∀ x ∈ xs, stb un x = true) → (∀ x v, l.lookup x = some v → ∃ u, m.lookup x = some u ∧ Den ad R u v ∧ stb un v = true) →
    ∀ x v, ((ps.zip xs).reverse ++ l).lookup x = some v → ∃ u, ((ps.zip vs).reverse ++ m).lookup x = some u ∧ Den ad R u v ∧ stb un v = true :=
  D.ind (p := fun vs xs => ∀ {ps : List Str} {l : List (Str × XV)} {m : List (Str × Value)}, (∀ x ∈ xs, stb un x = true) → (∀ x v, l.lookup x = some v → ∃ u, m.lookup x = some u ∧ Den ad R u v ∧ stb un v = true) →
      ∀ x v, ((ps.zip xs).reverse ++ l).lookup x = some v → ∃ u, ((ps.zip vs).reverse ++ m).lookup x = some u ∧ Den ad R u v ∧ stb un v = true)
    (fun {ps l m} _ h => by rw [List.zip_nil_right, List.zip_nil_right]; exact h) fun v0 vs x0 xs d ih {ps l m} hs h => by
    cases ps with
    | nil => exact h
    | cons p ps =>
      intro x v
      show ((((p, x0) :: ps.zip xs).reverse ++ l).lookup x = some v) → ∃ u, (((p, v0) :: ps.zip vs).reverse ++ m).lookup x = some u ∧ _
      rw [List.reverse_cons, List.reverse_cons, List.append_assoc, List.append_assoc]
      refine ih (ps := ps) (l := [(p, x0)] ++ l) (m := [(p, v0)] ++ m) (fun x hx => hs x (.tail _ hx)) (fun y z hy => ?_) x v
      show ∃ u, ((p, v0) :: m).lookup y = some u ∧ _
      have hy : ((p, x0) :: l).lookup y = some z := hy
      rw [List.lookup_cons] at hy ⊢
      cases e : y == p with
      | true => rw [e] at hy; cases hy; exact ⟨_, rfl, d, hs _ (.head _)⟩
      | false => rw [e] at hy; exact h y z hy
theorem len2 {p : List Value → Prop} {vs : List Value} (h : vs.length = 2) (k : ∀ a b, p [a, b]) : p vs := by
  cases vs with
  | nil => cases h
  | cons a r =>
  cases r with
  | nil => cases h
  | cons b r =>
  cases r with
  | nil => exact k a b
  | cons _ _ => cases h
theorem len3 {p : List Value → Prop} {vs : List Value} (h : vs.length = 3) (k : ∀ a b c, p [a, b, c]) : p vs := by
  cases vs with
  | nil => cases h
  | cons a r => exact len2 (p := fun r => p (a :: r)) (Nat.succ.inj h) (k a)
theorem len4 {p : List Value → Prop} {vs : List Value} (h : vs.length = 4) (k : ∀ a b c d, p [a, b, c, d]) : p vs := by
  cases vs with
  | nil => cases h
  | cons a r => exact len3 (p := fun r => p (a :: r)) (Nat.succ.inj h) (k a)
theorem len5 {p : List Value → Prop} {vs : List Value} (h : vs.length = 5) (k : ∀ a b c d e, p [a, b, c, d, e]) : p vs := by
  cases vs with
  | nil => cases h
  | cons a r => exact len4 (p := fun r => p (a :: r)) (Nat.succ.inj h) (k a)
theorem len6 {p : List Value → Prop} {vs : List Value} (h : vs.length = 6) (k : ∀ a b c d e f, p [a, b, c, d, e, f]) : p vs := by
  cases vs with
  | nil => cases h
  | cons a r => exact len5 (p := fun r => p (a :: r)) (Nat.succ.inj h) (k a)
theorem enter {c : Cfg} {w : World} {room : Nat} {f : Addr} {ps : List Str} {body : List Stmt} {sc : Scope} (D : FnAt w f ps body sc) {xs : List XV} {ob : List MO} {P : XV → List MO → Prop} (hl : xs.length = ps.length) (hst : xs.all (stb c.un) = true) (hn : c.names = sc.names) (hbig : c.big = true → 8 ≤ room)
    (hcall : ∀ f xs ob P, c.call f xs ob P → CallOk c.un w room (.ref f) xs ob P) {fu : Nat} (hw : wSs c fu body (ps.zip xs).reverse ob (retX P)) : CallOk c.un w (room + 1) (.ref f) xs ob P := by
  obtain ⟨oc, od, osl, name, qual, params, dV, kV, doc, pm, an, cdv, ct, h1, h2, h3⟩ := D.get
  have hk := D.ok
  unfold scopeOk at hk
  simp only [Bool.and_eq_true, Bool.not_eq_true', beq_iff_eq, List.all_eq_true, bne_iff_ne] at hk
  obtain ⟨⟨⟨⟨k1, k2⟩, k3⟩, k4⟩, k5⟩ := hk
  constructor
  intro vs ad O R hr hnd hoff hd mean mg mb dp un gd cn cs a ccd cl outer A₀ base h₀ L m s Q E B F X N T hkf hdp hun hret
  have hvl : vs.length = ps.length := by rw [hd.length, hl]
  refine wpAny_call ?_
  refine code_def B F X N T rfl rfl hkf h1 h2 (show dp < recursionLimit by lia -abstractProof) (h3 vs hvl _) (fun y hy => k5 _ (List.of_mem_zip hy).1) (fun g L' h' FG F' N' B' X' T' => ?_) k1 k2 k3 (fun x hx => (k4 x hx).1)
  have S : ∀ (Q₁ : Value → Shared → Prop) (E₁ : Value → Shared → Prop), Sy ⟨c, w, room, mean, mg, mb, dp + 1, un + 3, gd, qual, sc, L', f, cdv, [], envX cn cs L a ccd cl :: outer, ktrTop dp un gd cn cs L a ccd cl outer, base, g, fun e s' => wpAny (MM w) (ktrTop (dp + 1) (un + 3) gd qual sc L' f cdv [] (envX cn cs L a ccd cl :: outer)) (leaving (envX qual sc L' f cdv []) e) (fun _ s'' => Q₁ e s'') E₁ s', envX qual sc L' f cdv [], none, fun _ => none⟩ := fun _ _ =>
    ⟨⟨B', X', T', k3, (show dp + 1 + room < recursionLimit by lia -abstractProof), (show un + 3 + 8 * room < cLine by have := cLine_is; lia -abstractProof), hbig, fun x => by rw [hn]; rfl, fun p hp => (k4 p (hn ▸ hp)).2, k3, rfl, rfl, rfl, hcall⟩, rfl, rfl, PassesOwn.leaving⟩
  refine (snd_S (S _ _) fu).2 hw (s := s) (T := ⟨h', _, _, ad, O, R⟩) ⟨F', N', hr, hnd, hoff, (fun _ h => nomatch h), fun x v hx => ?_⟩ fun T2 fl xf l' ob' hw V2 G2 D2 => ?_
  · have h9 := zip_lookup (ps := ps) (l := []) (m := []) hd (fun x hx => List.all_eq_true.mp hst x hx) (fun _ _ h => nomatch h) x v (by rw [List.append_nil]; exact hx)
    rw [List.append_nil] at h9
    obtain ⟨u, hu, h9⟩ := h9
    refine ⟨u, (Rd.top ?_ rfl).mpr hu, h9⟩
    show c.names.lookup x = some .local
    rw [hn]
    exact k5 x (List.of_mem_zip (List.mem_reverse.mp (lookup_mem hx))).1
  · have out : ∀ {v z}, P z ob' → Den T2.ad T2.R v z → LeaveK h₀ L m g (fun r s' => match r with | .ok (.ret v) => Q v s' | .ok _ => False | .error e => E e s') v (T2.sh s) := fun hz Dz =>
      leaveK_ V2.fr V2.N fun F N => hret _ T2.h T2.tk _ F N ⟨_, ob', T2.ad, T2.O, T2.R, hz, rfl, V2.rows, V2.nd, V2.off, Dz, G2⟩
    cases D2 with
    | ret Dz => exact out hw Dz
    | next => exact out hw (.d .none)
end
section
open PySem.Calls PySem.Spec
noncomputable abbrev sN (l : List String) : List Str := l.map Str.ofString
noncomputable abbrev cfg (sc : Scope) (un : Bool) (k : Addr → List XV → List MO → (XV → List MO → Prop) → Prop) : Cfg := ⟨sc.names, un, false, k⟩
noncomputable abbrev noCall : Addr → List XV → List MO → (XV → List MO → Prop) → Prop := fun _ _ _ _ => False
theorem noCall_ok {un : Bool} {w : World} {room : Nat} : ∀ f xs ob P, noCall f xs ob P → CallOk un w room (.ref f) xs ob P := fun _ _ _ _ h => h.elim
theorem CallOk.mono {un : Bool} {w : World} {room room' : Nat} {f : Value} {xs : List XV} {ob : List MO} {P P' : XV → List MO → Prop} (h : CallOk un w room f xs ob P) (hr : room ≤ room') (hp : ∀ z o, P z o → P' z o) : CallOk un w room' f xs ob P' := ⟨fun vs ad O R hr1 hn ho hd => (h.ok vs ad O R hr1 hn ho hd).conv hr (fun _ h => h) fun h₀ h' L r news _ p => by
    obtain ⟨z, ob', ad', O', R', hz, q⟩ := p
    exact ⟨news, fun _ h => h, z, ob', ad', O', R', hp _ _ hz, q⟩⟩
theorem at_changed (w : World) : FnAt w 214 (sN ["row", "at", "value"]) (sBody (stAt 41)) (sScope (stAt 41)) :=
  ⟨⟨_, _, _, _, _, _, _, _, _, _, _, _, _, rfl, by kernel_rfl, fun vs h s => len3 (p := fun vs => BindsTo s _ ⟨vs, []⟩ (List.zip _ vs)) h fun _ _ _ => BindsTo.of_eq rfl⟩, by kernel_rfl⟩
theorem clip_nat {n d j : Nat} (h : j ≤ n) : clip n d (some (j : Int)) = j := by
  unfold clip
  show (if (j : Int) < 0 then _ else min (j : Int).toNat n) = j
  rw [if_neg (Int.not_lt.mpr (Int.natCast_nonneg j)), Int.toNat_natCast, Nat.min_eq_left h]
theorem clip_all {n : Nat} : clip n n none = n := rfl
theorem clip_no {n : Nat} : clip n 0 none = 0 := rfl
theorem ch_a {n j : Nat} (h : j < n) (hz : n ≤ 900) : n ≤ 1000 ∧ clip n 0 none ≤ clip n n (some (j : Int)) ∧ clip n n (some (j : Int)) - clip n 0 none < n := by
  rw [clip_nat (Nat.le_of_lt h), clip_no]; exact ⟨by lia -abstractProof, Nat.zero_le _, h⟩
theorem ch_b {n j : Nat} (h : j < n) (hz : n ≤ 900) : n ≤ 1000 ∧ clip n 0 (some ((j : Int) + 1)) ≤ clip n n none ∧ clip n n none - clip n 0 (some ((j : Int) + 1)) < n := by
  rw [show ((j : Int) + 1) = ((j + 1 : Nat) : Int) from rfl, clip_nat h, clip_all]; exact ⟨by lia -abstractProof, h, by lia -abstractProof⟩
theorem ch_c {ds : List Dat} {j : Nat} (h : j < ds.length) : ((ds.drop (clip ds.length 0 none)).take (clip ds.length ds.length (some (j : Int)) - clip ds.length 0 none)).length ≤ j := by
  rw [clip_nat (Nat.le_of_lt h), clip_no]; exact List.length_take_le _ _
theorem ch_d {ds : List Dat} {j : Nat} (h : j < ds.length) : ((ds.drop (clip ds.length 0 (some ((j : Int) + 1)))).take (clip ds.length ds.length none - clip ds.length 0 (some ((j : Int) + 1)))).length ≤ ds.length - (j + 1) := by
  rw [show ((j : Int) + 1) = ((j + 1 : Nat) : Int) from rfl, clip_nat h, clip_all]; exact List.length_take_le _ _
theorem ch_n {n j a b : Nat} (h : j < n) (hz : n ≤ 900) (h1 : a ≤ j) (h2 : b ≤ n - (j + 1)) : a + 1 ≤ 1000 ∧ a + 1 + b ≤ 1000 := by lia -abstractProof
theorem changed_dat {ds : List Dat} {j : Nat} {y : Dat} (h : j < ds.length) :
    (((ds.drop (clip ds.length 0 none)).take (clip ds.length ds.length (some (j : Int)) - clip ds.length 0 none)) ++ [y]) ++ (ds.drop (clip ds.length 0 (some ((j : Int) + 1)))).take (clip ds.length ds.length none - clip ds.length 0 (some ((j : Int) + 1))) = ds.set j y := by
  rw [show ((j : Int) + 1) = ((j + 1 : Nat) : Int) from rfl, clip_nat (Nat.le_of_lt h), clip_nat h, clip_no, clip_all, List.drop_zero, Nat.sub_zero, List.take_of_length_le (l := List.drop (j + 1) ds) (Nat.le_of_eq List.length_drop), List.set_eq_take_append_cons_drop, if_pos h, List.append_assoc]
  rfl
theorem changed_ok {un : Bool} {w : World} {ds : List Dat} {i : Int} {y : Dat} (h0 : 0 ≤ i) (h1 : i < ds.length) (hz : ds.length ≤ 900) {ob : List MO} :
    CallOk un w 1 (.ref 214) [.d (.tuple ds), .d (.int i), .d y] ob (fun z ob' => z = .d (.tuple (ds.set i.toNat y)) ∧ ob' = ob) := by
  obtain ⟨j, rfl⟩ : ∃ j : Nat, i = j := ⟨i.toNat, (Int.toNat_of_nonneg h0).symm⟩
  have h1 : j < ds.length := Int.ofNat_lt.mp h1
  refine enter (at_changed w) (c := cfg (sScope (stAt 41)) un noCall) (fu := 30) rfl rfl rfl (fun h => nomatch h) noCall_ok ?_
  have l := ch_n h1 hz (ch_c h1) (ch_d h1)
  refine And.intro (ch_a h1 hz) (And.intro l.1 (And.intro (ch_b h1 hz) (And.intro ?_ ⟨?_, rfl⟩)))
  · rw [List.length_append]; exact l.2
  · rw [changed_dat h1]; rfl
end
section
open PySem.Calls PySem.Spec
noncomputable def xvOk (n : Nat) : XV → Bool
  | .d _ => true
  | .o k => Nat.blt k n
  | _ => false
noncomputable def moOk (n : Nat) : MO → Bool
  | .inst _ fs => fs.all fun p => xvOk n p.2
  | .cell _ => false
  | .lsx _ => false
  | _ => true
noncomputable def isL : MO → Bool
  | .lst _ => true
  | .gone => true
  | _ => false
section
variable {P : Params} {ad ad' : List Addr} {R R' : List (Addr × Obj)} {n : Nat}
theorem den_re (ha : ∀ (k : Nat) (a : Addr), k < n → ad[k]? = some a → ad'[k]? = some a) (hs : TSub R R') {v : Value} {x : XV} (e : xvOk n x = true) (h : Den ad R v x) : Den ad' R' v x := by
  cases h with
  | d h => exact .d (h.mono hs)
  | o h => exact .o (ha _ _ (Nat.blt_eq.mp e) h)
  | g v => cases e
  | t _ _ => cases e
theorem denL_re (ha : ∀ (k : Nat) (a : Addr), k < n → ad[k]? = some a → ad'[k]? = some a) (hs : TSub R R') {vs : List Value} {xs : List XV} (e : xs.all (xvOk n) = true) (h : DenL ad R vs xs) : DenL ad' R' vs xs :=
  h.ind (p := fun vs xs => xs.all (xvOk n) = true → DenL ad' R' vs xs) (fun _ => .nil) (fun _ _ _ _ d r e => .cons (den_re ha hs (Bool.and_eq_true_iff.mp e).1 d) (r (Bool.and_eq_true_iff.mp e).2)) e
theorem ents_re (ha : ∀ (k : Nat) (a : Addr), k < n → ad[k]? = some a → ad'[k]? = some a) (hs : TSub R R') {es : List DictEntry} {fs : List (Str × XV)} (e : (fs.all fun p => xvOk n p.2) = true) (h : Ents P ad R es fs) : Ents P ad' R' es fs := by
  induction h with
  | nil => exact .nil
  | cons h _ ih => exact .cons (den_re ha hs (Bool.and_eq_true_iff.mp e).1 h) (ih (Bool.and_eq_true_iff.mp e).2)
theorem row1_re (ha : ∀ (k : Nat) (a : Addr), k < n → ad[k]? = some a → ad'[k]? = some a) (hs : TSub R R') {m : MO} {a : Addr} {X : List (Addr × Obj)} (e : moOk n m = true) (h : Row1 P ad R m a X) : Row1 P ad' R' m a X := by
  cases m with
  | gone => exact h
  | lst => exact h.imp fun _ h => h.imp fun _ h => ⟨h.1.mono hs, h.2⟩
  | inst => exact h.imp fun _ h => h.imp fun _ h => ⟨ents_re ha hs e h.1, h.2⟩
  | cell => cases e
  | lsx => cases e
theorem rows_re (ha : ∀ (k : Nat) (a : Addr), k < n → ad[k]? = some a → ad'[k]? = some a) (hs : TSub R R') {ob : List MO} {as : List Addr} {O : List (Addr × Obj)} (e : ob.all (moOk n) = true) (h : Rows P ad R ob as O) : Rows P ad' R' ob as O := by
  induction h with
  | nil => exact .nil
  | cons h _ ih => exact .cons (row1_re ha hs (Bool.and_eq_true_iff.mp e).1 h) (ih (Bool.and_eq_true_iff.mp e).2)
theorem rows_split {ob1 ob2 : List MO} : ∀ {as : List Addr} {O : List (Addr × Obj)}, Rows P ad R (ob1 ++ ob2) as O → ∃ as1 as2 O1 O2, as = as1 ++ as2 ∧ O = O1 ++ O2 ∧ Rows P ad R ob1 as1 O1 ∧ Rows P ad R ob2 as2 O2 := by
  induction ob1 with
  | nil => exact fun r => ⟨[], _, [], _, rfl, rfl, .nil, r⟩
  | cons m ob1 ih =>
    intro as O r
    obtain ⟨a, as', X, O', rfl, rfl, h1, h2⟩ := rows_cons r
    obtain ⟨as1, as2, O1, O2, rfl, rfl, h3, h4⟩ := ih h2
    exact ⟨a :: as1, as2, X ++ O1, O2, rfl, (List.append_assoc _ _ _).symm, .cons h1 h3, h4⟩
theorem rows_lists {ob : List MO} (e : ob.all isL = true) : ob.all (moOk 0) = true := List.all_eq_true.mpr fun m hm => by
  have := List.all_eq_true.mp e m hm
  cases m <;> first | rfl | cases this
end
theorem CallOk.trim {un : Bool} {w : World} {room : Nat} {f : Value} {xs : List XV} {ob : List MO} {P : XV → List MO → Prop} (h : CallOk un w room f xs ob fun z o => P z (o.take ob.length)) (hP : ∀ z o, P z o → xvOk ob.length z = true ∧ o.all (moOk ob.length) = true ∧ o.length = ob.length) : CallOk un w room f xs ob P := by
  constructor
  intro vs ad O R hr1 hn ho hd
  refine (h.ok vs ad O R hr1 hn ho hd).conv (Nat.le_refl _) (fun _ h => h) fun h₀ h' L r news' N' p => ?_
  obtain ⟨z, ob', ad', O', R', hz, rfl, hr', hnd, hoff, hd', hg⟩ := p
  obtain ⟨p1, p2, p3⟩ := hP _ _ hz
  have e0 : ob' = ob'.take ob.length ++ ob'.drop ob.length := (List.take_append_drop ..).symm
  rw [e0] at hr'
  obtain ⟨as1, as2, O1, O2, e1, rfl, r1, _⟩ := rows_split hr'
  have l1 : as1.length = ob.length := by rw [r1.length, p3]
  have ha : ∀ (k : Nat) (a : Addr), k < ob.length → ad'[k]? = some a → as1[k]? = some a := fun k a hk e => by
    rw [e1, List.getElem?_append_left (by lia -abstractProof)] at e; exact e
  have l0 := hr1.length
  refine ⟨O1 ++ R', fun p hp => ?_, z, _, as1, O1, R', hz, rfl, rows_re ha tsub_refl p2 r1, ?_, ?_, den_re ha tsub_refl p1 hd', ⟨fun k a e c => ha k a ?_ (hg.adr k a e c), hg.ext⟩⟩
  · exact (List.mem_append.mp hp).elim (fun hp => List.mem_append.mpr (.inl (List.mem_append.mpr (.inl hp)))) fun hp => List.mem_append.mpr (.inr hp)
  · rw [show keys (O1 ++ O2) = keys O1 ++ keys O2 from List.map_append] at hnd
    exact (List.nodup_append.mp hnd).1
  · intro p hp b hb
    exact hoff p hp b (by rw [show keys (O1 ++ O2) = keys O1 ++ keys O2 from List.map_append]; exact List.mem_append.mpr (.inl hb))
  · have := (List.getElem?_eq_some_iff.mp e).1; lia -abstractProof
theorem CallOk.frame {un : Bool} {w : World} {room : Nat} {f : Value} {xs : List XV} {ob rest : List MO} {P : XV → List MO → Prop} (h : CallOk un w room f xs ob P) (hx : xs.all (xvOk ob.length) = true) (ho1 : ob.all (moOk ob.length) = true) (hrest : rest.all isL = true) (hu : un = false)
    (hP : ∀ z o, P z o → xvOk ob.length z = true ∧ o.all (moOk ob.length) = true ∧ o.length = ob.length) : CallOk un w room f xs (ob ++ rest) fun z o => ∃ o', P z o' ∧ o = o' ++ rest := by
  constructor
  intro vs ad O R hr1 hn ho hd
  obtain ⟨as1, as2, O1, O2, rfl, rfl, r1, r2⟩ := rows_split hr1
  have l1 : as1.length = ob.length := r1.length
  have ek : keys (O1 ++ O2) = keys O1 ++ keys O2 := List.map_append
  rw [ek] at hn ho
  obtain ⟨n1, n2, n3⟩ := List.nodup_append.mp hn
  have ha : ∀ (k : Nat) (a : Addr), k < ob.length → (as1 ++ as2)[k]? = some a → as1[k]? = some a := fun k a hk e => by
    rw [List.getElem?_append_left (by lia -abstractProof)] at e; exact e
  have hO2 := rows_cls r2
  have t1 : TSub R (O2 ++ R) := tsub_right
  refine (h.ok vs as1 O1 (O2 ++ R) (rows_re ha t1 ho1 r1) n1 ?_ (denL_re ha t1 hx hd)).conv (Nat.le_refl _) (fun p hp => by rw [List.append_assoc]; exact hp) fun h₀ h' L r news' N' p => ?_
  · intro p hp b hb
    rcases List.mem_append.mp hp with hp | hp
    · exact fun e => n3 b hb p.1 (List.mem_map_of_mem hp) e.symm
    · exact ho p hp b (List.mem_append.mpr (.inl hb))
  obtain ⟨z, ob', ad', O', R', hz, rfl, hr', hnd, hoff, hd', hg⟩ := p
  obtain ⟨p1, p2, p3⟩ := hP _ _ hz
  obtain ⟨e, he, rfl⟩ := hg.ext
  have l2 : ad'.length = ob.length := by rw [hr'.length, p3]
  have t2 : TSub (e ++ (O2 ++ R)) (e ++ R) := tsub_mid hO2
  have hb : ∀ (k : Nat) (a : Addr), k < ob.length → ad'[k]? = some a → (ad' ++ as2)[k]? = some a := fun k a hk e => by
    rw [List.getElem?_append_left (by lia -abstractProof)]; exact e
  refine ⟨(O' ++ O2) ++ (e ++ R), fun p hp => ?_, z, ob' ++ rest, ad' ++ as2, O' ++ O2, e ++ R, ⟨ob', hz, rfl⟩, rfl, rows_join (rows_re hb t2 p2 hr') (rows_re (n := 0) (fun k a h => absurd h (Nat.not_lt_zero _)) tsub_right (rows_lists hrest) r2), ?_, ?_, den_re hb t2 p1 hd', ⟨fun k a ek c => ?_, e, he, rfl⟩⟩
  · rw [List.append_assoc] at hp
    exact (List.mem_append.mp hp).elim (fun hp => List.mem_append.mpr (.inl hp)) fun hp => List.mem_append.mpr (.inr (mem_mid hp))
  · rw [show keys (O' ++ O2) = keys O' ++ keys O2 from List.map_append]
    refine List.nodup_append.mpr ⟨hnd, n2, fun b hb' b2 hb2 eb => ?_⟩
    obtain ⟨p, hp, rfl⟩ := List.mem_map.mp hb2
    exact hoff p (List.mem_append.mpr (.inr (List.mem_append.mpr (.inl hp)))) b hb' eb.symm
  · rw [show keys (O' ++ O2) = keys O' ++ keys O2 from List.map_append]
    intro p hp b hb'
    rcases List.mem_append.mp hb' with hb' | hb'
    · exact hoff p (mem_mid (List.mem_append.mpr (.inr hp))) b hb'
    · rcases List.mem_append.mp hp with hp | hp
      · obtain ⟨q, hq, rfl⟩ := List.mem_map.mp hb'
        exact ne_obj N' (List.mem_append.mpr (.inr (List.mem_append.mpr (.inl hp)))) (List.mem_append.mpr (.inr (List.mem_append.mpr (.inr (List.mem_append.mpr (.inl hq)))))) (by obtain ⟨_, _, e9⟩ := he p hp; rw [e9]; exact Ne.symm (hO2 q hq _ _))
      · exact ho p hp b (List.mem_append.mpr (.inr hb'))
  · by_cases hk' : k < as1.length
    · rw [List.getElem?_append_left hk'] at ek
      exact hb k a (by lia -abstractProof) (hg.adr k a ek (.inr (.inl hu)))
    · rw [List.getElem?_append_right (by lia -abstractProof)] at ek ⊢
      rw [l2, ← l1]; exact ek
end
section
open PySem.Calls PySem.Spec
section
variable {P : Params} {ad ad' : List Addr} {R R' : List (Addr × Obj)}
noncomputable def shX (f : Nat → Nat) : XV → XV
  | .o k => .o (f k)
  | x => x
noncomputable def fldOk (p : Nat → Bool) : XV → Bool
  | .o k => p k
  | .t _ => false
  | _ => true
theorem den_sh {f : Nat → Nat} {p : Nat → Bool} (ha : ∀ (k : Nat) (a : Addr), p k = true → ad[k]? = some a → ad'[f k]? = some a) (hs : TSub R R') {v : Value} {x : XV} (e : fldOk p x = true) (h : Den ad R v x) : Den ad' R' v (shX f x) := by
  cases h with
  | d h => exact .d (h.mono hs)
  | o h => exact .o (ha _ _ e h)
  | g v => exact .g v
  | t _ _ => cases e
theorem denL_sh {f : Nat → Nat} {p : Nat → Bool} (ha : ∀ (k : Nat) (a : Addr), p k = true → ad[k]? = some a → ad'[f k]? = some a) (hs : TSub R R') {vs : List Value} {xs : List XV} (e : xs.all (fldOk p) = true) (h : DenL ad R vs xs) : DenL ad' R' vs (xs.map (shX f)) :=
  h.ind (p := fun vs xs => xs.all (fldOk p) = true → DenL ad' R' vs (xs.map (shX f))) (fun _ => .nil) (fun _ _ _ _ d r e => .cons (den_sh ha hs (Bool.and_eq_true_iff.mp e).1 d) (r (Bool.and_eq_true_iff.mp e).2)) e
theorem ents_sh {f : Nat → Nat} {p : Nat → Bool} (ha : ∀ (k : Nat) (a : Addr), p k = true → ad[k]? = some a → ad'[f k]? = some a) (hs : TSub R R') {es : List DictEntry} {fs : List (Str × XV)} (e : (fs.all fun q => fldOk p q.2) = true) (h : Ents P ad R es fs) : Ents P ad' R' es (fs.map fun q => (q.1, shX f q.2)) := by
  induction h with
  | nil => exact .nil
  | cons h _ ih => exact .cons (den_sh ha hs (Bool.and_eq_true_iff.mp e).1 h) (ih (Bool.and_eq_true_iff.mp e).2)
noncomputable def shO (f : Nat → Nat) : MO → MO
  | .inst C fs => .inst C (fs.map fun q => (q.1, shX f q.2))
  | m => m
noncomputable def mofOk (p : Nat → Bool) : MO → Bool
  | .inst _ fs => fs.all fun q => fldOk p q.2
  | .cell _ => false
  | .lsx _ => false
  | _ => true
theorem row1_sh {f : Nat → Nat} {p : Nat → Bool} (ha : ∀ (k : Nat) (a : Addr), p k = true → ad[k]? = some a → ad'[f k]? = some a) (hs : TSub R R') {m : MO} {a : Addr} {X : List (Addr × Obj)} (e : mofOk p m = true) (h : Row1 P ad R m a X) : Row1 P ad' R' (shO f m) a X := by
  cases m with
  | gone => exact h
  | lst => exact h.imp fun _ h => h.imp fun _ h => ⟨h.1.mono hs, h.2⟩
  | inst => exact h.imp fun _ h => h.imp fun _ h => ⟨ents_sh ha hs e h.1, by rw [List.length_map]; exact h.2⟩
  | cell => cases e
  | lsx => cases e
theorem rows_sh {f : Nat → Nat} {p : Nat → Bool} (ha : ∀ (k : Nat) (a : Addr), p k = true → ad[k]? = some a → ad'[f k]? = some a) (hs : TSub R R') {ob : List MO} {as : List Addr} {O : List (Addr × Obj)} (e : ob.all (mofOk p) = true) (h : Rows P ad R ob as O) : Rows P ad' R' (ob.map (shO f)) as O := by
  induction h with
  | nil => exact .nil
  | cons h _ ih => exact .cons (row1_sh ha hs (Bool.and_eq_true_iff.mp e).1 h) (ih (Bool.and_eq_true_iff.mp e).2)
noncomputable abbrev okA : MO → Bool := mofOk fun _ => true
noncomputable def sel : List MO → List Nat → Option (List MO × List MO)
  | ob, [] => some ([], ob)
  | ob, k :: σ => (ob[k]?).bind fun m => (sel (ob.set k .gone) σ).map fun q => (m :: q.1, q.2)
theorem rows_sel {as : List Addr} {σ : List Nat} : ∀ {ob : List MO} {O : List (Addr × Obj)} {q : List MO × List MO}, Rows P ad R ob as O → sel ob σ = some q → ∃ as' O1 Y, O.Perm (O1 ++ Y) ∧ Rows P ad R q.1 as' O1 ∧ (∀ j k : Nat, σ[j]? = some k → as'[j]? = as[k]?) ∧ Rows P ad R q.2 as Y := by
  induction σ with
  | nil => intro ob O q h e; cases e; exact ⟨[], [], O, .refl _, .nil, (fun j k e => by cases j <;> cases e), h⟩
  | cons k σ ih =>
    intro ob O q h e
    obtain ⟨m, hm, e⟩ := Option.bind_eq_some_iff.mp e
    obtain ⟨q', e', rfl⟩ := Option.map_eq_some_iff.mp e
    obtain ⟨a, X, Y1, ha, hp, hx, hy⟩ := rows_pick h hm
    obtain ⟨as', O1, Y, hp2, h1, hi, h2⟩ := ih hy e'
    refine ⟨a :: as', X ++ O1, Y, hp.trans ?_, .cons hx h1, fun j k' e => ?_, h2⟩
    · rw [List.append_assoc]; exact (List.Perm.refl X).append hp2
    · cases j with
      | zero => cases e; exact ha.symm
      | succ j => exact hi j k' e
theorem perm_nd {O O1 Y : List (Addr × Obj)} (hp : O.Perm (O1 ++ Y)) (h : (keys O).Nodup) : (keys O1).Nodup := by
  have h2 := (hp.map (·.1)).nodup_iff.mp h
  rw [List.map_append] at h2
  exact (List.nodup_append.mp h2).1
theorem perm_off {O O1 Y : List (Addr × Obj)} (hp : O.Perm (O1 ++ Y)) (h : OwnOff R (keys O)) : OwnOff R (keys O1) := fun p hp' b hb => by
  obtain ⟨q, hq, rfl⟩ := keys_mem hb
  exact h p hp' _ (mem_keys (hp.mem_iff.mpr (mem_l hq)))
theorem perm_l {O O1 Y : List (Addr × Obj)} (hp : O.Perm (O1 ++ Y)) {p : Addr × Obj} (h : p ∈ O1) : p ∈ O := hp.mem_iff.mpr (mem_l h)
theorem perm_r {O O1 Y : List (Addr × Obj)} (hp : O.Perm (O1 ++ Y)) {p : Addr × Obj} (h : p ∈ Y) : p ∈ O := hp.mem_iff.mpr (mem_r h)
end
end
section
open PySem.Calls PySem.Spec
noncomputable abbrev pcF (k : Int) : List (Str × XV) := [(Str.ofString "steps", .o 1), (Str.ofString "loops", .d (.int k))]
noncomputable abbrev obP (k : Int) (ds : List Dat) : List MO := [.inst 196 (pcF k), .lst ds]
noncomputable abbrev Spec := List (Addr × (List XV → List MO → (XV → List MO → Prop) → Prop))
theorem at_emit (w : World) : FnAt w 158 (sN ["self", "step"]) (sBody (inAt 39 1)) (sScope (inAt 39 1)) :=
  ⟨⟨_, _, _, _, _, _, _, _, _, _, _, _, _, rfl, by kernel_rfl, fun vs h s => len2 (p := fun vs => BindsTo s _ ⟨vs, []⟩ (List.zip _ vs)) h fun _ _ => BindsTo.of_eq rfl⟩, by kernel_rfl⟩
theorem emit_ok {w : World} {ds : List Dat} {k : Int} {y : Dat} (hz : ds.length < 1000) : CallOk false w 1 (.ref 158) [.o 0, .d y] (obP k ds) (fun z o => z = .d (.int ds.length) ∧ o = obP k (ds ++ [y])) := by
  refine enter (at_emit w) (c := cfg (sScope (inAt 39 1)) false noCall) (fu := 30) rfl rfl rfl (fun h => nomatch h) noCall_ok ?_
  refine And.intro (by lia -abstractProof) (And.intro ?_ (And.intro ?_ rfl))
  · rw [List.length_append]; show _ + 1 ≤ _; lia -abstractProof
  · rw [List.length_append]; show XV.d (.int ((ds.length + 1 : Nat) - 1)) = _; congr 2; lia -abstractProof
noncomputable def nthD (ds : List Dat) (i : Int) : Option Dat := (seqIndex? i ds.length).bind fun j => ds[j]?
theorem itT {ds : List Dat} {i : Int} {P : Dat → Prop} {v : Dat} (e : nthD ds i = some v) (hz : Nat.ble ds.length 1000 = true) (h : P v) : ∃ (j : Nat) (v : Dat), seqIndex? i ds.length = some j ∧ ds[j]? = some v ∧ ds.length ≤ 1000 ∧ P v := by
  obtain ⟨j, e1, e2⟩ := Option.bind_eq_some_iff.mp e
  exact ⟨j, v, e1, e2, Nat.le_of_ble_eq_true hz, h⟩
theorem CallOk.to {un : Bool} {w : World} {r r' : Nat} {f : Value} {xs : List XV} {ob ob' : List MO} {v : XV} {P : XV → List MO → Prop} (h : CallOk un w r f xs ob fun z o => z = v ∧ o = ob') (hr : r ≤ r') (p : P v ob') : CallOk un w r' f xs ob P := h.mono hr fun z o e => by obtain ⟨rfl, rfl⟩ := e; exact p
theorem CallOk.to2 {un : Bool} {w : World} {r r' : Nat} {f : Value} {xs : List XV} {ob : List MO} {F : Nat → XV} {G : List MO → List MO} {B : Nat → List MO → List MO → Prop} {P : XV → List MO → Prop} (h : CallOk un w r f xs ob fun z o => ∃ (j : Nat) (X : List MO), z = F j ∧ o = G X ∧ B j X o) (hr : r ≤ r') (p : ∀ j X, B j X (G X) → P (F j) (G X)) : CallOk un w r' f xs ob P := h.mono hr fun z o e => by obtain ⟨j, X, rfl, rfl, b⟩ := e; exact p j X b
theorem ixG {α : Type} {A : Nat → Prop} {g : Nat → Option α} {ok : Prop} {P : α → Prop} (j : Nat) {v : α} (e : A j) (h : g j = some v) (k : ok) (p : P v) : ∃ (j : Nat) (v : α), A j ∧ g j = some v ∧ ok ∧ P v := ⟨j, v, e, h, k, p⟩
theorem ixH {α β : Type} {A : α → β → Prop} {ok : α → Prop} {P : α → β → Prop} (a : α) (b : β) (e : A a b) (k : ok a) (p : P a b) : ∃ (a : α) (b : β), A a b ∧ ok a ∧ P a b := ⟨a, b, e, k, p⟩
theorem whI {B : (List (Str × XV) → List MO → Nat → Prop) → List (Str × XV) → List MO → Nat → Prop} {a : List (Str × XV)} {b : List MO} (I : List (Str × XV) → List MO → Nat → Prop) (n : Nat) (c : List (Str × XV)) (h1 : subL c a) (h2 : I c b n) (h3 : ∀ x y k, I x y k → B I x y k) : ∃ (I : List (Str × XV) → List MO → Nat → Prop) (n : Nat) (c : List (Str × XV)), subL c a ∧ I c b n ∧ ∀ x y k, I x y k → B I x y k := ⟨I, n, c, h1, h2, h3⟩
theorem ifT {b : Bool} {A B : Prop} (e : b = true) (h : A) : cond b A B := by subst e; exact h
theorem ifF {b : Bool} {A B : Prop} (e : b = false) (h : B) : cond b A B := by subst e; exact h
noncomputable abbrev cfgC (w : World) (sc : Scope) (un : Bool) (rm : Nat) : Cfg := ⟨sc.names, un, Nat.ble 8 rm, fun f xs ob P => CallOk un w rm (.ref f) xs ob P⟩
theorem enterC {w : World} {un : Bool} {room : Nat} {f : Addr} {ps : List Str} {body : List Stmt} {sc : Scope} (D : FnAt w f ps body sc) (fu : Nat) {xs : List XV} {ob : List MO} {P : XV → List MO → Prop} (hl : xs.length = ps.length) (hst : xs.all (stb un) = true)
    (hw : wSs (cfgC w sc un room) fu body (ps.zip xs).reverse ob (retX P)) : CallOk un w (room + 1) (.ref f) xs ob P := enter D hl hst rfl (fun h => Nat.le_of_ble_eq_true h) (fun _ _ _ _ h => h) hw
theorem call_as {w : World} {r rm : Nat} {f : Addr} {xs : List XV} {k k' : Int} {ds ds' : List Dat} {y : Dat} {ob rest : List MO} {P : XV → List MO → Prop} (h : CallOk false w r (.ref f) xs (obP k ds) fun z o => z = .d y ∧ o = obP k' ds') (hr : r ≤ rm) (hx : xs.all (xvOk 2) = true) (e : ob = obP k ds ++ rest) (hrest : rest.all isL = true)
    (hP : P (.d y) (obP k' ds' ++ rest)) : CallOk false w rm (.ref f) xs ob P := by
  subst e
  refine (CallOk.frame h hx rfl hrest rfl ?_).mono hr ?_
  · rintro z o ⟨rfl, rfl⟩; exact ⟨rfl, rfl, rfl⟩
  · rintro z o ⟨o', ⟨rfl, rfl⟩, rfl⟩; exact hP
theorem call_emit {w : World} {rm q : Nat} {k : Int} {ds : List Dat} {y : Dat} {ob rest : List MO} {P : XV → List MO → Prop} (hr : 1 ≤ rm) (e : ob = obP k ds ++ rest) (hrest : rest.all isL = true) (hq : ds.length = q) (hz : q < 1000) (hP : P (.d (.int q)) (obP k (ds ++ [y]) ++ rest)) : CallOk false w rm (.ref 158) [.o 0, .d y] ob P := by
  subst hq
  exact call_as (emit_ok hz) hr rfl e hrest hP
noncomputable def PutV (w : World) (p : Pat) : Prop := ∀ (ds : List Dat) (k : Nat), ds.length + p.len < 1000 → k + p.loops < 1000 →
  CallOk false w p.room (.ref 165) [.o 0, .d p.dat] (obP k ds) (fun z o => z = .d .none ∧ o = obP ((k + p.loops : Nat) : Int) (ds ++ (p.ops ds.length k).map Op.dat))
theorem call_put {w : World} {rm q : Nat} {p : Pat} {k : Nat} {ds : List Dat} {ob rest : List MO} {P : XV → List MO → Prop} (h : PutV w p) (hr : p.room ≤ rm) (e : ob = obP k ds ++ rest) (hrest : rest.all isL = true) (hq : ds.length = q) (h1 : q + p.len < 1000) (h2 : k + p.loops < 1000)
    (hP : P (.d .none) (obP ((k + p.loops : Nat) : Int) (ds ++ (p.ops q k).map Op.dat) ++ rest)) : CallOk false w rm (.ref 165) [.o 0, .d p.dat] ob P := by
  subst hq
  exact call_as (h ds k h1 h2) hr rfl e hrest hP
theorem ch2 {ds A B : List Dat} {x y u v : Dat} {i j : Nat} (hi : i = ds.length) (hj : j = ds.length + 1 + A.length) : ((ds ++ [u] ++ A ++ [v]).set i x ++ B).set j y = ds ++ x :: (A ++ y :: B) := by
  rw [show ds ++ [u] ++ A ++ [v] = ds ++ u :: (A ++ [v]) by simp, set1 hi, show ds ++ x :: (A ++ [v]) ++ B = (ds ++ x :: A) ++ v :: B by simp, set1 (by simp; lia -abstractProof)]
  simp
theorem ob_eq {k k' : Int} {ds ds' : List Dat} (h1 : k = k') (h2 : ds = ds') : XV.d .none = XV.d .none ∧ obP k ds = obP k' ds' := ⟨rfl, by rw [h1, h2]⟩
theorem at_put (w : World) : FnAt w 165 (sN ["self", "tree"]) (sBody (inAt 39 2)) (sScope (inAt 39 2)) :=
  ⟨⟨_, _, _, _, _, _, _, _, _, _, _, _, _, rfl, by kernel_rfl, fun vs h s => len2 (p := fun vs => BindsTo s _ ⟨vs, []⟩ (List.zip _ vs)) h fun _ _ => BindsTo.of_eq rfl⟩, by kernel_rfl⟩
theorem at_plain (w : World) : FnAt w 172 (sN ["self", "tree"]) (sBody (inAt 39 3)) (sScope (inAt 39 3)) :=
  ⟨⟨_, _, _, _, _, _, _, _, _, _, _, _, _, rfl, by kernel_rfl, fun vs h s => len2 (p := fun vs => BindsTo s _ ⟨vs, []⟩ (List.zip _ vs)) h fun _ _ => BindsTo.of_eq rfl⟩, by kernel_rfl⟩
theorem at_choice (w : World) : FnAt w 179 (sN ["self", "trees"]) (sBody (inAt 39 4)) (sScope (inAt 39 4)) :=
  ⟨⟨_, _, _, _, _, _, _, _, _, _, _, _, _, rfl, by kernel_rfl, fun vs h s => len2 (p := fun vs => BindsTo s _ ⟨vs, []⟩ (List.zip _ vs)) h fun _ _ => BindsTo.of_eq rfl⟩, by kernel_rfl⟩
theorem at_group (w : World) : FnAt w 186 (sN ["self", "number", "tree"]) (sBody (inAt 39 5)) (sScope (inAt 39 5)) :=
  ⟨⟨_, _, _, _, _, _, _, _, _, _, _, _, _, rfl, by kernel_rfl, fun vs h s => len3 (p := fun vs => BindsTo s _ ⟨vs, []⟩ (List.zip _ vs)) h fun _ _ _ => BindsTo.of_eq rfl⟩, by kernel_rfl⟩
theorem at_repeat (w : World) : FnAt w 193 (sN ["self", "tree"]) (sBody (inAt 39 6)) (sScope (inAt 39 6)) :=
  ⟨⟨_, _, _, _, _, _, _, _, _, _, _, _, _, rfl, by kernel_rfl, fun vs h s => len2 (p := fun vs => BindsTo s _ ⟨vs, []⟩ (List.zip _ vs)) h fun _ _ => BindsTo.of_eq rfl⟩, by kernel_rfl⟩
end
section
open PySem.Calls PySem.Spec
noncomputable def sFor : Stmt → List Stmt
  | .For _ _ b _ _ => b
  | _ => []
theorem optE {α : Type} {o : Option α} {a : α} {k : α → Prop} (e : o = some a) (h : k a) : optX o k := by subst e; exact h
theorem min_cast (b n : Nat) : min (b : Int) (n : Int) = ((min b n : Nat) : Int) := by
  rcases Nat.le_total b n with h | h
  · rw [Nat.min_eq_left h, Int.min_eq_left (Int.ofNat_le.mpr h)]
  · rw [Nat.min_eq_right h, Int.min_eq_right (Int.ofNat_le.mpr h)]
theorem slice_idx {a b n : Nat} (h2 : a ≤ n) : Builtin.Str.strSliceIndices (some (a : Int)) (some (b : Int)) 1 n = (List.range (min b n - a)).map fun k => a + k := by
  show sliceRange (max 0 (min (if (a : Int) < 0 then (a : Int) + n else a) n)) (max 0 (min (if (b : Int) < 0 then (b : Int) + n else b) n)) 1 = _
  rw [if_neg (Int.not_lt.mpr (Int.natCast_nonneg a)), if_neg (Int.not_lt.mpr (Int.natCast_nonneg b)), Int.min_eq_left (Int.ofNat_le.mpr h2), Int.max_eq_right (Int.natCast_nonneg a), min_cast, Int.max_eq_right (Int.natCast_nonneg _)]
  have e3 : (if (a : Int) < ((min b n : Nat) : Int) then (((min b n : Nat) : Int) - a + 1 - 1) / 1 else 0).toNat = min b n - a := by
    by_cases h : (a : Int) < ((min b n : Nat) : Int)
    · rw [if_pos h, Int.ediv_one, Int.add_sub_cancel, Int.toNat_sub]
    · rw [if_neg h]; exact (Nat.sub_eq_zero_of_le (Int.ofNat_le.mp (Int.not_lt.mp h))).symm
  show (List.range (if (a : Int) < ((min b n : Nat) : Int) then (((min b n : Nat) : Int) - a + 1 - 1) / 1 else 0).toNat).map (fun (k : Nat) => ((a : Int) + 1 * (k : Int)).toNat) = _
  rw [e3]
  exact congrArg (fun f => List.map f _) (funext fun k => by rw [Int.one_mul]; rfl)
theorem pick_take {T : List Nat} : ∀ {c a : Nat}, a + c ≤ T.length → (((List.range c).map fun k => a + k).filterMap fun k => T[k]?) = (T.drop a).take c := by
  intro c
  induction c with
  | zero => intro a _; rfl
  | succ c ih =>
    intro a h
    rw [List.range_succ, List.map_append, List.filterMap_append, ih (Nat.le_of_succ_le h), List.take_add_one, List.getElem?_drop]
    cases e : T[a + c]? <;> simp [e]
theorem slice_nat {T : List Nat} {a b : Nat} (h2 : a ≤ T.length) : Txt.slice ⟨T.toArray⟩ (some (a : Int)) (some (b : Int)) = ⟨((T.drop a).take (b - a)).toArray⟩ := by
  have hn : (⟨T.toArray⟩ : Str).length = T.length := List.size_toArray
  have hl : ((T.drop a).take (b - a)).length = min b T.length - a := by rw [List.length_take, List.length_drop, Nat.sub_min_sub_right]
  have ht : (T.drop a).take (min b T.length - a) = (T.drop a).take (b - a) := by
    rw [List.take_eq_take_iff, List.length_drop, Nat.sub_min_sub_right, Nat.sub_min_sub_right, Nat.min_assoc, Nat.min_self]
  unfold Txt.slice
  rw [hn, slice_idx h2]
  have hm : (((List.range (min b T.length - a)).map fun k => a + k).filterMap fun k => (⟨T.toArray⟩ : Str).cps[k]?) = (T.drop a).take (b - a) := by
    rw [← ht]
    have : (fun (k : Nat) => (⟨T.toArray⟩ : Str).cps[k]?) = fun (k : Nat) => T[k]? := funext fun k => List.getElem?_toArray
    rw [this]
    exact pick_take (Nat.le_trans (Nat.add_le_add_left (Nat.sub_le_sub_right (Nat.min_le_right _ _) _) _) (Nat.le_of_eq (Nat.add_sub_cancel' h2)))
  by_cases h : (((1 : Int) == 1 && ((List.range (min b T.length - a)).map fun k => a + k).length == T.length) = true)
  · rw [if_pos h]
    have h3 : min b T.length - a = T.length := by simpa using h
    exact congrArg (fun l : List Nat => (⟨l.toArray⟩ : Str)) (((List.take_sublist _ _).trans (List.drop_sublist _ _)).eq_of_length (hl.trans h3)).symm
  · rw [if_neg h, hm]
end
section
open PySem.Calls PySem.Spec
theorem put_seq2 {w : World} {a b : Pat} (ha : PutV w a) (hb : PutV w b) : PutV w (.seq2 a b) := by
  intro ds k h1 h2
  replace h1 : ds.length + (a.len + b.len) < 1000 := h1
  replace h2 : k + (a.loops + b.loops) < 1000 := h2
  refine enterC (room := a.room + b.room) (at_put w) 60 rfl rfl ?_
  (first | refine itT rfl rfl ?_ | refine ixG _ rfl rfl (Nat.le_of_ble_eq_true rfl) ?_)
  (first | refine itT rfl rfl ?_ | refine ixG _ rfl rfl (Nat.le_of_ble_eq_true rfl) ?_)
  (refine call_put (q := (ds.length)) ha (by lia -abstractProof) rfl rfl ?hq3 (by lia -abstractProof) (by lia -abstractProof) ?_; (case hq3 => ((try simp only [List.length_append, List.length_map, Pat.ops_length, List.length_cons, List.length_nil, List.length_set]) <;> lia -abstractProof)))
  (refine call_put (q := (ds.length + a.len)) hb (by lia -abstractProof) rfl rfl ?hq4 (by lia -abstractProof) (by lia -abstractProof) ?_; (case hq4 => ((try simp only [List.length_append, List.length_map, Pat.ops_length, List.length_cons, List.length_nil, List.length_set]) <;> lia -abstractProof)))
  refine ob_eq ?_ ?_
  · show _ = ((k + (a.loops + b.loops) : Nat) : Int); lia -abstractProof
  · show _ = ds ++ List.map Op.dat (a.ops _ _ ++ b.ops _ _)
    simp only [List.append_assoc, List.map_append]
theorem put_seq3 {w : World} {a b c : Pat} (ha : PutV w a) (hb : PutV w b) (hc : PutV w c) : PutV w (.seq3 a b c) := by
  intro ds k h1 h2
  replace h1 : ds.length + (a.len + b.len + c.len) < 1000 := h1
  replace h2 : k + (a.loops + b.loops + c.loops) < 1000 := h2
  refine enterC (room := a.room + b.room + c.room) (at_put w) 60 rfl rfl ?_
  (first | refine itT rfl rfl ?_ | refine ixG _ rfl rfl (Nat.le_of_ble_eq_true rfl) ?_)
  (first | refine itT rfl rfl ?_ | refine ixG _ rfl rfl (Nat.le_of_ble_eq_true rfl) ?_)
  (refine call_put (q := (ds.length)) ha (by lia -abstractProof) rfl rfl ?hq7 (by lia -abstractProof) (by lia -abstractProof) ?_; (case hq7 => ((try simp only [List.length_append, List.length_map, Pat.ops_length, List.length_cons, List.length_nil, List.length_set]) <;> lia -abstractProof)))
  (refine call_put (q := (ds.length + a.len)) hb (by lia -abstractProof) rfl rfl ?hq8 (by lia -abstractProof) (by lia -abstractProof) ?_; (case hq8 => ((try simp only [List.length_append, List.length_map, Pat.ops_length, List.length_cons, List.length_nil, List.length_set]) <;> lia -abstractProof)))
  (refine call_put (q := (ds.length + a.len + b.len)) hc (by lia -abstractProof) rfl rfl ?hq9 (by lia -abstractProof) (by lia -abstractProof) ?_; (case hq9 => ((try simp only [List.length_append, List.length_map, Pat.ops_length, List.length_cons, List.length_nil, List.length_set]) <;> lia -abstractProof)))
  refine ob_eq ?_ ?_
  · show _ = ((k + (a.loops + b.loops + c.loops) : Nat) : Int); lia -abstractProof
  · show _ = ds ++ List.map Op.dat (a.ops _ _ ++ (b.ops _ _ ++ c.ops _ _))
    simp only [List.append_assoc, List.map_append]
theorem choice2 {w : World} {a b : Pat} (ha : PutV w a) (hb : PutV w b) {ds : List Dat} {k : Nat} (h1 : ds.length + (a.len + b.len + 2) < 1000) (h2 : k + (a.loops + b.loops) < 1000) :
    CallOk false w (a.room + b.room + 1) (.ref 179) [.o 0, .d (.tuple [a.dat, b.dat])] (obP k ds) (fun z o => z = .d .none ∧ o = obP ((k + (Pat.alt2 a b).loops : Nat) : Int) (ds ++ ((Pat.alt2 a b).ops ds.length k).map Op.dat)) := by
  refine CallOk.trim ?_ (fun z o h => by obtain ⟨rfl, rfl⟩ := h; exact ⟨rfl, rfl, rfl⟩)
  have := a.room_two
  refine enterC (room := a.room + b.room) (at_choice w) 60 rfl rfl ?_
  (refine And.intro ⟨Nat.le_of_ble_eq_true rfl, Nat.le_of_ble_eq_true rfl, Nat.le_of_ble_eq_true rfl⟩ ?_)
  (refine call_emit (q := (ds.length)) (by lia -abstractProof) rfl rfl ?hq11 (by lia -abstractProof) ?_; (case hq11 => ((try simp only [List.length_append, List.length_map, Pat.ops_length, List.length_cons, List.length_nil, List.length_set]) <;> lia -abstractProof)))
  (refine call_put (q := (ds.length + 1)) ha (by lia -abstractProof) rfl rfl ?hq12 (by lia -abstractProof) (by lia -abstractProof) ?_; (case hq12 => ((try simp only [List.length_append, List.length_map, Pat.ops_length, List.length_cons, List.length_nil, List.length_set]) <;> lia -abstractProof)))
  (refine call_emit (q := (ds.length + 1 + a.len)) (by lia -abstractProof) rfl rfl ?hq13 (by lia -abstractProof) ?_; (case hq13 => ((try simp only [List.length_append, List.length_map, Pat.ops_length, List.length_cons, List.length_nil, List.length_set]) <;> lia -abstractProof)))
  (refine And.intro ?hl14 ?_; (case hl14 => ((try simp only [List.length_append, List.length_map, Pat.ops_length, List.length_cons, List.length_nil, List.length_set]) <;> lia -abstractProof)))
  (refine And.intro ?hl15 ?_; (case hl15 => ((try simp only [List.length_append, List.length_map, Pat.ops_length, List.length_cons, List.length_nil, List.length_set]) <;> lia -abstractProof)))
  (refine And.intro ⟨?sa16, ?sb16, ?sc16⟩ ?_; (case sa16 => lia -abstractProof); (case sb16 => (refine Int.ofNat_lt.mpr ?_; ((try simp only [List.length_append, List.length_map, Pat.ops_length, List.length_cons, List.length_nil, List.length_set]) <;> lia -abstractProof))); (case sc16 => ((try simp only [List.length_append, List.length_map, Pat.ops_length, List.length_cons, List.length_nil, List.length_set]) <;> lia -abstractProof)))
  (first | refine itT rfl rfl ?_ | refine ixG _ rfl rfl (Nat.le_of_ble_eq_true rfl) ?_)
  (refine call_put (q := (ds.length + a.len + 2)) hb (by lia -abstractProof) rfl rfl ?hq18 (by lia -abstractProof) (by lia -abstractProof) ?_; (case hq18 => ((try simp only [List.length_append, List.length_map, Pat.ops_length, List.length_cons, List.length_nil, List.length_set]) <;> lia -abstractProof)))
  (refine And.intro ?hl19 ?_; (case hl19 => ((try simp only [List.length_append, List.length_map, Pat.ops_length, List.length_cons, List.length_nil, List.length_set]) <;> lia -abstractProof)))
  (refine And.intro ⟨?sa20, ?sb20, ?sc20⟩ ?_; (case sa20 => lia -abstractProof); (case sb20 => (refine Int.ofNat_lt.mpr ?_; ((try simp only [List.length_append, List.length_map, Pat.ops_length, List.length_cons, List.length_nil, List.length_set]) <;> lia -abstractProof))); (case sc20 => ((try simp only [List.length_append, List.length_map, Pat.ops_length, List.length_cons, List.length_nil, List.length_set]) <;> lia -abstractProof)))
  refine ob_eq ?_ ((ch2 rfl ?_).trans (alt2_fin rfl ?_ ?_ rfl))
  · show _ = ((k + (a.loops + b.loops) : Nat) : Int); lia -abstractProof
  · ((try simp only [List.length_append, List.length_map, Pat.ops_length, List.length_cons, List.length_nil, List.length_set]) <;> lia -abstractProof)
  · ((try simp only [List.length_append, List.length_map, Pat.ops_length, List.length_cons, List.length_nil, List.length_set]) <;> lia -abstractProof)
  · ((try simp only [List.length_append, List.length_map, Pat.ops_length, List.length_cons, List.length_nil, List.length_set]) <;> lia -abstractProof)
end
section
open PySem.Calls PySem.Spec
theorem put_alt2 {w : World} {a b : Pat} (ha : PutV w a) (hb : PutV w b) : PutV w (.alt2 a b) := by
  intro ds k h1 h2
  replace h1 : ds.length + (a.len + b.len + 2) < 1000 := h1
  replace h2 : k + (a.loops + b.loops) < 1000 := h2
  refine enterC (room := a.room + b.room + 1) (at_put w) 60 rfl rfl ?_
  (first | refine itT rfl rfl ?_ | refine ixG _ rfl rfl (Nat.le_of_ble_eq_true rfl) ?_)
  (first | refine itT rfl rfl ?_ | refine ixG _ rfl rfl (Nat.le_of_ble_eq_true rfl) ?_)
  exact call_as (choice2 ha hb h1 h2) (Nat.le_refl _) rfl rfl rfl ⟨rfl, rfl⟩
theorem group_ok {w : World} {a : Pat} (ha : PutV w a) {ds : List Dat} {k : Nat} (h1 : ds.length + a.len < 1000) (h2 : k + a.loops < 1000) :
    CallOk false w (a.room + 1) (.ref 186) [.o 0, .d .none, .d a.dat] (obP k ds) (fun z o => z = .d .none ∧ o = obP ((k + a.loops : Nat) : Int) (ds ++ (a.ops ds.length k).map Op.dat)) := by
  refine enterC (room := a.room) (at_group w) 60 rfl rfl ?_
  (refine call_put (q := (ds.length)) ha (by lia -abstractProof) rfl rfl ?hq3 (by lia -abstractProof) (by lia -abstractProof) ?_; (case hq3 => ((try simp only [List.length_append, List.length_map, Pat.ops_length, List.length_cons, List.length_nil, List.length_set]) <;> lia -abstractProof)))
  exact ⟨rfl, rfl⟩
theorem groupN_ok {w : World} {a : Pat} {n : Nat} (ha : PutV w a) {ds : List Dat} {k : Nat} (h1 : ds.length + (a.len + 2) < 1000) (h2 : k + a.loops < 1000) :
    CallOk false w (a.room + 1) (.ref 186) [.o 0, .d (.int n), .d a.dat] (obP k ds) (fun z o => z = .d .none ∧ o = obP ((k + a.loops : Nat) : Int) (ds ++ ((Pat.grpN n a).ops ds.length k).map Op.dat)) := by
  have := a.room_two
  refine enterC (room := a.room) (at_group w) 60 rfl rfl ?_
  (refine call_emit (q := (ds.length)) (by lia -abstractProof) rfl rfl ?hq4 (by lia -abstractProof) ?_; (case hq4 => ((try simp only [List.length_append, List.length_map, Pat.ops_length, List.length_cons, List.length_nil, List.length_set]) <;> lia -abstractProof)))
  (refine call_put (q := (ds.length + 1)) ha (by lia -abstractProof) rfl rfl ?hq5 (by lia -abstractProof) (by lia -abstractProof) ?_; (case hq5 => ((try simp only [List.length_append, List.length_map, Pat.ops_length, List.length_cons, List.length_nil, List.length_set]) <;> lia -abstractProof)))
  (refine call_emit (q := (ds.length + 1 + a.len)) (by lia -abstractProof) rfl rfl ?hq6 (by lia -abstractProof) ?_; (case hq6 => ((try simp only [List.length_append, List.length_map, Pat.ops_length, List.length_cons, List.length_nil, List.length_set]) <;> lia -abstractProof)))
  exact ob_eq rfl (grp_fin rfl)
theorem put_grpN {w : World} {a : Pat} {n : Nat} (ha : PutV w a) : PutV w (.grpN n a) := by
  intro ds k h1 h2
  replace h1 : ds.length + (a.len + 2) < 1000 := h1
  replace h2 : k + (a.loops) < 1000 := h2
  refine enterC (room := a.room + 1) (at_put w) 60 rfl rfl ?_
  (first | refine itT rfl rfl ?_ | refine ixG _ rfl rfl (Nat.le_of_ble_eq_true rfl) ?_)
  (first | refine itT rfl rfl ?_ | refine ixG _ rfl rfl (Nat.le_of_ble_eq_true rfl) ?_)
  (first | refine itT rfl rfl ?_ | refine ixG _ rfl rfl (Nat.le_of_ble_eq_true rfl) ?_)
  exact call_as (groupN_ok ha h1 h2) (Nat.le_refl _) rfl rfl rfl ⟨rfl, rfl⟩
theorem put_grp {w : World} {a : Pat} (ha : PutV w a) : PutV w (.grp a) := by
  intro ds k h1 h2
  replace h1 : ds.length + (a.len) < 1000 := h1
  replace h2 : k + (a.loops) < 1000 := h2
  refine enterC (room := a.room + 1) (at_put w) 60 rfl rfl ?_
  (first | refine itT rfl rfl ?_ | refine ixG _ rfl rfl (Nat.le_of_ble_eq_true rfl) ?_)
  (first | refine itT rfl rfl ?_ | refine ixG _ rfl rfl (Nat.le_of_ble_eq_true rfl) ?_)
  (first | refine itT rfl rfl ?_ | refine ixG _ rfl rfl (Nat.le_of_ble_eq_true rfl) ?_)
  exact call_as (group_ok ha h1 h2) (Nat.le_refl _) rfl rfl rfl ⟨rfl, rfl⟩
theorem repeat_ok {w : World} {a : Pat} {lo : Int} {mo : Option Int} {lz : Bool} (ha : PutV w a) {ds : List Dat} {k : Nat} (h1 : ds.length + (a.len + 3) < 1000) (h2 : k + (a.loops + 1) < 1000) :
    CallOk false w (a.room + 1) (.ref 193) [.o 0, .d (Pat.rep lo mo lz a).dat] (obP k ds) (fun z o => z = .d .none ∧ o = obP ((k + (a.loops + 1) : Nat) : Int) (ds ++ ((Pat.rep lo mo lz a).ops ds.length k).map Op.dat)) := by
  have := a.room_two
  refine enterC (room := a.room) (at_repeat w) 60 rfl rfl ?_
  (refine And.intro ⟨Nat.le_of_ble_eq_true rfl, Nat.le_of_ble_eq_true rfl, Nat.le_of_ble_eq_true rfl⟩ ?_)
  refine And.intro rfl ?_
  (refine call_emit (q := (ds.length)) (by lia -abstractProof) rfl rfl ?hq14 (by lia -abstractProof) ?_; (case hq14 => ((try simp only [List.length_append, List.length_map, Pat.ops_length, List.length_cons, List.length_nil, List.length_set]) <;> lia -abstractProof)))
  (refine call_emit (q := (ds.length + 1)) (by lia -abstractProof) rfl rfl ?hq15 (by lia -abstractProof) ?_; (case hq15 => ((try simp only [List.length_append, List.length_map, Pat.ops_length, List.length_cons, List.length_nil, List.length_set]) <;> lia -abstractProof)))
  refine call_put (q := ds.length + 2) (k := k + 1) ha (Nat.le_refl _) rfl rfl ?hq ?hl1 ?hl2 ?_
  case hq => ((try simp only [List.length_append, List.length_map, Pat.ops_length, List.length_cons, List.length_nil, List.length_set]) <;> lia -abstractProof)
  case hl1 => lia -abstractProof
  case hl2 => lia -abstractProof
  (refine call_emit (q := (ds.length + 2 + a.len)) (by lia -abstractProof) rfl rfl ?hq17 (by lia -abstractProof) ?_; (case hq17 => ((try simp only [List.length_append, List.length_map, Pat.ops_length, List.length_cons, List.length_nil, List.length_set]) <;> lia -abstractProof)))
  (refine And.intro ?hl18 ?_; (case hl18 => ((try simp only [List.length_append, List.length_map, Pat.ops_length, List.length_cons, List.length_nil, List.length_set]) <;> lia -abstractProof)))
  (refine And.intro ⟨?sa19, ?sb19, ?sc19⟩ ?_; (case sa19 => lia -abstractProof); (case sb19 => (refine Int.ofNat_lt.mpr ?_; ((try simp only [List.length_append, List.length_map, Pat.ops_length, List.length_cons, List.length_nil, List.length_set]) <;> lia -abstractProof))); (case sc19 => ((try simp only [List.length_append, List.length_map, Pat.ops_length, List.length_cons, List.length_nil, List.length_set]) <;> lia -abstractProof)))
  refine ob_eq ?_ (rep_fin ?_ ?_ ?_ rfl)
  · lia -abstractProof
  all_goals ((try simp only [List.length_append, List.length_map, Pat.ops_length, List.length_cons, List.length_nil, List.length_set]) <;> lia -abstractProof)
theorem put_rep {w : World} {a : Pat} {lo : Int} {mo : Option Int} {lz : Bool} (ha : PutV w a) : PutV w (.rep lo mo lz a) := by
  intro ds k h1 h2
  replace h1 : ds.length + (a.len + 3) < 1000 := h1
  replace h2 : k + (a.loops + 1) < 1000 := h2
  refine enterC (room := a.room + 1) (at_put w) 60 rfl rfl ?_
  (first | refine itT rfl rfl ?_ | refine ixG _ rfl rfl (Nat.le_of_ble_eq_true rfl) ?_)
  exact call_as (repeat_ok ha h1 h2) (Nat.le_refl _) rfl rfl rfl ⟨rfl, rfl⟩
theorem plain_chr {w : World} {c : Int} {ob : List MO} : CallOk false w 1 (.ref 172) [.o 0, .d (Pat.chr c).dat] ob (fun z o => z = .d (Op.chr c).dat ∧ o = ob) := by
  refine enterC (room := 0) (at_plain w) 60 rfl rfl ?_
  (first | refine itT rfl rfl ?_ | refine ixG _ rfl rfl (Nat.le_of_ble_eq_true rfl) ?_)
  (first | refine itT rfl rfl ?_ | refine ixG _ rfl rfl (Nat.le_of_ble_eq_true rfl) ?_)
  exact ⟨rfl, rfl⟩
theorem plain_back {w : World} {n : Nat} {ob : List MO} : CallOk false w 1 (.ref 172) [.o 0, .d (Pat.back n).dat] ob (fun z o => z = .d (Op.back n).dat ∧ o = ob) := by
  refine enterC (room := 0) (at_plain w) 60 rfl rfl ?_
  (first | refine itT rfl rfl ?_ | refine ixG _ rfl rfl (Nat.le_of_ble_eq_true rfl) ?_)
  (first | refine itT rfl rfl ?_ | refine ixG _ rfl rfl (Nat.le_of_ble_eq_true rfl) ?_)
  exact ⟨rfl, rfl⟩
theorem put_back {w : World} {n : Nat} : PutV w (.back n) := by
  intro ds k h1 h2
  replace h1 : ds.length + (1) < 1000 := h1
  replace h2 : k + (0) < 1000 := h2
  refine enterC (room := 1) (at_put w) 60 rfl rfl ?_
  (first | refine itT rfl rfl ?_ | refine ixG _ rfl rfl (Nat.le_of_ble_eq_true rfl) ?_)
  refine CallOk.to ((plain_back (n := n))) (Nat.le_refl _) ?_
  (refine call_emit (q := (ds.length)) (by lia -abstractProof) rfl rfl ?hq27 (by lia -abstractProof) ?_; (case hq27 => ((try simp only [List.length_append, List.length_map, Pat.ops_length, List.length_cons, List.length_nil, List.length_set]) <;> lia -abstractProof)))
  exact ⟨rfl, rfl⟩
theorem plain_cls {w : World} {ob : List MO} : CallOk false w 1 (.ref 172) [.o 0, .d Pat.cls.dat] ob (fun z o => z = .d Op.cls.dat ∧ o = ob) := by
  refine enterC (room := 0) (at_plain w) 60 rfl rfl ?_
  (first | refine itT rfl rfl ?_ | refine ixG _ rfl rfl (Nat.le_of_ble_eq_true rfl) ?_)
  (first | refine itT rfl rfl ?_ | refine ixG _ rfl rfl (Nat.le_of_ble_eq_true rfl) ?_)
  (first | refine itT rfl rfl ?_ | refine ixG _ rfl rfl (Nat.le_of_ble_eq_true rfl) ?_)
  exact ⟨rfl, rfl⟩
theorem put_chr {w : World} {c : Int} : PutV w (.chr c) := by
  intro ds k h1 h2
  replace h1 : ds.length + (1) < 1000 := h1
  replace h2 : k + (0) < 1000 := h2
  refine enterC (room := 1) (at_put w) 60 rfl rfl ?_
  (first | refine itT rfl rfl ?_ | refine ixG _ rfl rfl (Nat.le_of_ble_eq_true rfl) ?_)
  refine CallOk.to ((plain_chr (c := c))) (Nat.le_refl _) ?_
  (refine call_emit (q := (ds.length)) (by lia -abstractProof) rfl rfl ?hq32 (by lia -abstractProof) ?_; (case hq32 => ((try simp only [List.length_append, List.length_map, Pat.ops_length, List.length_cons, List.length_nil, List.length_set]) <;> lia -abstractProof)))
  exact ⟨rfl, rfl⟩
theorem put_cls {w : World} : PutV w .cls := by
  intro ds k h1 h2
  replace h1 : ds.length + (1) < 1000 := h1
  replace h2 : k + (0) < 1000 := h2
  refine enterC (room := 1) (at_put w) 60 rfl rfl ?_
  (first | refine itT rfl rfl ?_ | refine ixG _ rfl rfl (Nat.le_of_ble_eq_true rfl) ?_)
  refine CallOk.to (plain_cls) (Nat.le_refl _) ?_
  (refine call_emit (q := (ds.length)) (by lia -abstractProof) rfl rfl ?hq34 (by lia -abstractProof) ?_; (case hq34 => ((try simp only [List.length_append, List.length_map, Pat.ops_length, List.length_cons, List.length_nil, List.length_set]) <;> lia -abstractProof)))
  exact ⟨rfl, rfl⟩
end
section
open PySem.Calls PySem.Spec
theorem call_says {un : Bool} {w : World} {room : Nat} {f : Value} {xs : List XV} {ob : List MO} {y : Dat} (h : ∀ (vs : List Value) (nw R : List (Addr × Obj)) (ad : List Addr), (∀ p ∈ R, p ∈ nw) → DenL ad R vs xs → Says w f vs room nw (fun rv news' => ∃ ext, news' = ext ++ nw ∧ Tups ext ∧ TIn (ext ++ R) rv y)) :
    CallOk un w room f xs ob (fun z o => z = .d y ∧ o = ob) := by
  constructor
  intro vs ad O R hr hn ho hd
  refine (h vs (O ++ R) R ad (fun p hp => mem_r hp) hd).conv (Nat.le_refl _) (fun _ h => h) fun h₀ h' L r news' N' p => ?_
  obtain ⟨ext, rfl, he, ht⟩ := p
  refine ⟨O ++ (ext ++ R), fun p hp => mem_mid hp, _, ob, ad, O, ext ++ R, ⟨rfl, rfl⟩, rfl, hr.mono (fun k a h => h) tsub_right, hn, fun p hp b hb => ?_, .d ht, ⟨fun k a h _ => h, ext, he, rfl⟩⟩
  rcases List.mem_append.mp hp with hp | hp
  · obtain ⟨q, hq, rfl⟩ := keys_mem hb
    exact ne_obj N' (mem_l hp) (mem_r (mem_l hq)) (by obtain ⟨_, _, e9⟩ := he p hp; rw [e9]; exact Ne.symm (rows_cls hr q hq _ _))
  · exact ho p hp b hb
theorem plain_any {w : World} {ob : List MO} : CallOk false w 1 (.ref 172) [.o 0, .d Pat.any.dat] ob (fun z o => z = .d Op.any.dat ∧ o = ob) := by
  refine call_says fun vs nw R ad hR hd => ?_
  obtain ⟨u0, u1, rfl, hd0, hd1⟩ := denL_two hd
  cases hd1 with
  | d hv =>
    obtain ⟨ra, rs, rn, rfl, hm, q0⟩ := dat_tuple hv
    obtain ⟨v1, rs1, rfl, hv1, q1⟩ := dat_cons q0
    obtain rfl := dat_nil q1
    obtain ⟨tc1, rfl⟩ := dat_str hv1
    refine (any_says w _ ra rn tc1 nw (hR _ hm)).conv (Nat.le_refl _) (fun _ h => h) fun h₀ h' L r news' N' p => ?_
    obtain ⟨ext, D, t, n, rfl, he, rfl, hD⟩ := p
    exact ⟨_, fun _ h => h, ext, rfl, he, .tuple (mem_l hD) (.cons (.int 1 t) .nil)⟩
theorem put_any {w : World} : PutV w .any := by
  intro ds k h1 h2
  replace h1 : ds.length + (1) < 1000 := h1
  replace h2 : k + (0) < 1000 := h2
  refine enterC (room := 1) (at_put w) 60 rfl rfl ?_
  (first | refine itT rfl rfl ?_ | refine ixG _ rfl rfl (Nat.le_of_ble_eq_true rfl) ?_)
  refine CallOk.to (plain_any) (Nat.le_refl _) ?_
  (refine call_emit (q := (ds.length)) (by lia -abstractProof) rfl rfl ?hq2 (by lia -abstractProof) ?_; (case hq2 => ((try simp only [List.length_append, List.length_map, Pat.ops_length, List.length_cons, List.length_nil, List.length_set]) <;> lia -abstractProof)))
  exact ⟨rfl, rfl⟩
theorem plain_fin {w : World} {ob : List MO} : CallOk false w 1 (.ref 172) [.o 0, .d Pat.fin.dat] ob (fun z o => z = .d Op.fin.dat ∧ o = ob) := by
  refine call_says fun vs nw R ad hR hd => ?_
  obtain ⟨u0, u1, rfl, hd0, hd1⟩ := denL_two hd
  cases hd1 with
  | d hv =>
    obtain ⟨ra, rs, rn, rfl, hm, q0⟩ := dat_tuple hv
    obtain ⟨v1, rs1, rfl, hv1, q1⟩ := dat_cons q0
    obtain rfl := dat_nil q1
    obtain ⟨tc1, rfl⟩ := dat_str hv1
    refine (fin_says w _ ra rn tc1 nw (hR _ hm)).conv (Nat.le_refl _) (fun _ h => h) fun h₀ h' L r news' N' p => ?_
    obtain ⟨ext, D, t, n, rfl, he, rfl, hD⟩ := p
    exact ⟨_, fun _ h => h, ext, rfl, he, .tuple (mem_l hD) (.cons (.int 4 t) .nil)⟩
theorem put_fin {w : World} : PutV w .fin := by
  intro ds k h1 h2
  replace h1 : ds.length + (1) < 1000 := h1
  replace h2 : k + (0) < 1000 := h2
  refine enterC (room := 1) (at_put w) 60 rfl rfl ?_
  (first | refine itT rfl rfl ?_ | refine ixG _ rfl rfl (Nat.le_of_ble_eq_true rfl) ?_)
  refine CallOk.to (plain_fin) (Nat.le_refl _) ?_
  (refine call_emit (q := (ds.length)) (by lia -abstractProof) rfl rfl ?hq4 (by lia -abstractProof) ?_; (case hq4 => ((try simp only [List.length_append, List.length_map, Pat.ops_length, List.length_cons, List.length_nil, List.length_set]) <;> lia -abstractProof)))
  exact ⟨rfl, rfl⟩
theorem put_ok {w : World} : ∀ p : Pat, PutV w p
  | .chr _ => put_chr
  | .any => put_any
  | .cls => put_cls
  | .fin => put_fin
  | .back _ => put_back
  | .seq2 a b => put_seq2 (put_ok a) (put_ok b)
  | .alt2 a b => put_alt2 (put_ok a) (put_ok b)
  | .seq3 a b c => put_seq3 (put_ok a) (put_ok b) (put_ok c)
  | .grp t => put_grp (put_ok t)
  | .grpN _ t => put_grpN (put_ok t)
  | .rep _ _ _ t => put_rep (put_ok t)
end
section
open PySem.Calls PySem.Spec
theorem at_has (w : World) : FnAt w 76 (sN ["ranges", "code"]) (sBody (stAt 13)) (sScope (stAt 13)) :=
  ⟨⟨_, _, _, _, _, _, _, _, _, _, _, _, _, rfl, by kernel_rfl, fun vs h s => len2 (p := fun vs => BindsTo s _ ⟨vs, []⟩ (List.zip _ vs)) h fun _ _ => BindsTo.of_eq rfl⟩, by kernel_rfl⟩
noncomputable abbrev ab1 : Dat := .tuple [.tuple [.int 97, .int 98]]
noncomputable abbrev hasL (lo hi code : Int) : List (Str × XV) := [(Str.ofString "low", .d (.int lo)), (Str.ofString "high", .d (.int hi)), (Str.ofString "ranges", .d ab1), (Str.ofString "code", .d (.int code))]
noncomputable def HasI (code : Int) (ob : List MO) (l : List (Str × XV)) (o : List MO) (m : Nat) : Prop := o = ob ∧ ((m = 1 ∧ l = hasL 0 1 code) ∨ (m = 0 ∧ l = cond (decide (98 < code)) (hasL 1 1 code) (hasL 0 0 code)))
theorem has_ok {un : Bool} {w : World} {code : Int} {ob : List MO} (hc : code = 97 ∨ code = 98 ∨ code = 99) : CallOk un w 1 (.ref 76) [.d (.tuple [.tuple [.int 97, .int 98]]), .d (.int code)] ob (fun z o => z = .d (.bool (decide (code ≠ 99))) ∧ o = ob) := by
  refine enterC (room := 0) (at_has w) 60 rfl rfl ?_
  refine And.intro (Nat.le_of_ble_eq_true rfl) ?_
  refine whI (HasI code ob) 1 (hasL 0 1 code) ⟨rfl, rfl, rfl, rfl, trivial⟩ ⟨rfl, .inl ⟨rfl, rfl⟩⟩ ?_
  rintro l1 ob1 m ⟨rfl, ⟨rfl, rfl⟩ | ⟨rfl, rfl⟩⟩
  · (first | refine itT rfl rfl ?_ | refine ixG _ rfl rfl (Nat.le_of_ble_eq_true rfl) ?_)
    (first | refine itT rfl rfl ?_ | refine ixG _ rfl rfl (Nat.le_of_ble_eq_true rfl) ?_)
    cases hd : decide (98 < code) with
    | true =>
      (first | refine ifT hd ?_ | (refine ifT rfl ?_; first | refine ifT hd ?_ | (refine ifT rfl ?_; refine ifT hd ?_)))
      exact ⟨0, hasL 1 1 code, Nat.zero_lt_one, ⟨rfl, rfl, rfl, rfl, trivial⟩, rfl, .inr ⟨rfl, by rw [hd]; rfl⟩⟩
    | false =>
      (first | refine ifF hd ?_ | (refine ifT rfl ?_; first | refine ifF hd ?_ | (refine ifT rfl ?_; refine ifF hd ?_)))
      exact ⟨0, hasL 0 0 code, Nat.zero_lt_one, ⟨rfl, rfl, rfl, rfl, trivial⟩, rfl, .inr ⟨rfl, by rw [hd]; rfl⟩⟩
  · have hle : code ≠ 99 → 97 ≤ code ∧ ¬ 98 < code := fun h => by lia -abstractProof
    by_cases h : code = 99
    · subst h
      refine And.intro (Nat.le_of_ble_eq_true rfl) ?_
      exact ⟨rfl, rfl⟩
    · obtain ⟨h1, h2⟩ := hle h
      rw [decide_eq_false h2]
      refine And.intro (Nat.le_of_ble_eq_true rfl) ?_
      (first | refine itT rfl rfl ?_ | refine ixG _ rfl rfl (Nat.le_of_ble_eq_true rfl) ?_)
      (first | refine itT rfl rfl ?_ | refine ixG _ rfl rfl (Nat.le_of_ble_eq_true rfl) ?_)
      exact ⟨by rw [decide_eq_true h, decide_eq_true h1], rfl⟩
end
section
open PySem.Calls PySem.Spec
noncomputable abbrev seF (T : List Nat) (left : Int) (k : Nat) : List (Str × XV) := [(Str.ofString "steps", .o 1), (Str.ofString "text", .d (.str ⟨T.toArray⟩)), (Str.ofString "ignores_case", .d (.bool false)), (Str.ofString "is_multiline", .d (.bool false)), (Str.ofString "left", .d (.int left)), (Str.ofString "waiting", .o k)]
noncomputable abbrev obS (C : List Op) (T : List Nat) (left : Int) (W : List Dat) : List MO := [.inst 287 (seF T left 2), .lst (C.map Op.dat), .lst W]
theorem at_keep (w : World) : FnAt w 242 (sN ["self", "state"]) (sBody (inAt 42 2)) (sScope (inAt 42 2)) :=
  ⟨⟨_, _, _, _, _, _, _, _, _, _, _, _, _, rfl, by kernel_rfl, fun vs h s => len2 (p := fun vs => BindsTo s _ ⟨vs, []⟩ (List.zip _ vs)) h fun _ _ => BindsTo.of_eq rfl⟩, by kernel_rfl⟩
theorem at_advance (w : World) : FnAt w 249 (sN ["self", "step", "state"]) (sBody (inAt 42 3)) (sScope (inAt 42 3)) :=
  ⟨⟨_, _, _, _, _, _, _, _, _, _, _, _, _, rfl, by kernel_rfl, fun vs h s => len3 (p := fun vs => BindsTo s _ ⟨vs, []⟩ (List.zip _ vs)) h fun _ _ _ => BindsTo.of_eq rfl⟩, by kernel_rfl⟩
theorem at_takes (w : World) : FnAt w 256 (sN ["self", "step", "code"]) (sBody (inAt 42 4)) (sScope (inAt 42 4)) :=
  ⟨⟨_, _, _, _, _, _, _, _, _, _, _, _, _, rfl, by kernel_rfl, fun vs h s => len3 (p := fun vs => BindsTo s _ ⟨vs, []⟩ (List.zip _ vs)) h fun _ _ _ => BindsTo.of_eq rfl⟩, by kernel_rfl⟩
theorem at_stands (w : World) : FnAt w 263 (sN ["self", "step", "at"]) (sBody (inAt 42 5)) (sScope (inAt 42 5)) :=
  ⟨⟨_, _, _, _, _, _, _, _, _, _, _, _, _, rfl, by kernel_rfl, fun vs h s => len3 (p := fun vs => BindsTo s _ ⟨vs, []⟩ (List.zip _ vs)) h fun _ _ _ => BindsTo.of_eq rfl⟩, by kernel_rfl⟩
theorem at_again (w : World) : FnAt w 270 (sN ["self", "group", "at"]) (sBody (inAt 42 6)) (sScope (inAt 42 6)) :=
  ⟨⟨_, _, _, _, _, _, _, _, _, _, _, _, _, rfl, by kernel_rfl, fun vs h s => len3 (p := fun vs => BindsTo s _ ⟨vs, []⟩ (List.zip _ vs)) h fun _ _ _ => BindsTo.of_eq rfl⟩, by kernel_rfl⟩
theorem at_rep (w : World) : FnAt w 284 (sN ["self", "step", "state"]) (sBody (inAt 42 8)) (sScope (inAt 42 8)) :=
  ⟨⟨_, _, _, _, _, _, _, _, _, _, _, _, _, rfl, by kernel_rfl, fun vs h s => len3 (p := fun vs => BindsTo s _ ⟨vs, []⟩ (List.zip _ vs)) h fun _ _ _ => BindsTo.of_eq rfl⟩, by kernel_rfl⟩
theorem at_run (w : World) : FnAt w 235 (sN ["self", "pc", "at", "groups", "loops"]) (sBody (inAt 42 1)) (sScope (inAt 42 1)) :=
  ⟨⟨_, _, _, _, _, _, _, _, _, _, _, _, _, rfl, by kernel_rfl, fun vs h s => len5 (p := fun vs => BindsTo s _ ⟨vs, []⟩ (List.zip _ vs)) h fun _ _ _ _ _ => BindsTo.of_eq rfl⟩, by kernel_rfl⟩
theorem line_ok {un : Bool} {w : World} {code : Int} {ob : List MO} (hc : code = 97 ∨ code = 98 ∨ code = 99) : CallOk un w 1 (.ref 22) [.d (.int code)] ob (fun z o => z = .d (.bool false) ∧ o = ob) := by
  refine call_says fun vs nw R ad hR hd => ?_
  obtain ⟨u, rfl, D2⟩ := denL_one hd
  obtain ⟨t, rfl⟩ := den_int D2
  refine (isline_says w code t nw hc).conv (Nat.le_refl _) (fun _ h => h) fun h₀ h' L r news' N' p => ?_
  obtain ⟨rfl, rfl⟩ := p
  exact ⟨_, fun _ h => h, [], rfl, tups_nil, .bool _⟩
theorem takes_ok {w : World} {C : List Op} {T : List Nat} {left : Int} {W : List Dat} {op : Op} (hop : op = .any ∨ op = .cls ∨ ∃ c, op = .chr c) {code : Int} (hc : code = 97 ∨ code = 98 ∨ code = 99) :
    CallOk true w 2 (.ref 256) [.o 0, .d op.dat, .d (.int code)] (obS C T left W) (fun z o => z = .d (.bool (takesB op code)) ∧ o = obS C T left W) := by
  rcases hop with rfl | rfl | ⟨c, rfl⟩
  · refine enterC (room := 1) (at_takes w) 60 rfl rfl ?_
    (first | refine itT rfl rfl ?_ | refine ixG _ rfl rfl (Nat.le_of_ble_eq_true rfl) ?_)
    refine CallOk.to ((line_ok hc)) (Nat.le_refl _) ?_
    exact ⟨rfl, rfl⟩
  · refine enterC (room := 1) (at_takes w) 60 rfl rfl ?_
    (first | refine itT rfl rfl ?_ | refine ixG _ rfl rfl (Nat.le_of_ble_eq_true rfl) ?_)
    (first | refine itT rfl rfl ?_ | refine ixG _ rfl rfl (Nat.le_of_ble_eq_true rfl) ?_)
    (first | refine itT rfl rfl ?_ | refine ixG _ rfl rfl (Nat.le_of_ble_eq_true rfl) ?_)
    refine CallOk.to ((has_ok hc)) (Nat.le_refl _) ?_
    (first | refine itT rfl rfl ?_ | refine ixG _ rfl rfl (Nat.le_of_ble_eq_true rfl) ?_)
    refine ⟨?_, rfl⟩
    simp [takesB]
  · refine enterC (room := 1) (at_takes w) 60 rfl rfl ?_
    (first | refine itT rfl rfl ?_ | refine ixG _ rfl rfl (Nat.le_of_ble_eq_true rfl) ?_)
    (first | refine itT rfl rfl ?_ | refine ixG _ rfl rfl (Nat.le_of_ble_eq_true rfl) ?_)
    (first | refine itT rfl rfl ?_ | refine ixG _ rfl rfl (Nat.le_of_ble_eq_true rfl) ?_)
    by_cases h : c = code
    · refine ifT (b := c == code) (by simp [h]) ?_
      refine ⟨?_, rfl⟩
      simp [takesB, h]
    · refine ifF (b := c == code) (by simp [h]) ?_
      refine ⟨?_, rfl⟩
      simp [takesB, h]
noncomputable def wayZ : List St → Dat
  | [] => .none
  | a :: _ => a.dat
noncomputable def wayW : List St → List Dat
  | _ :: b :: _ => [b.dat]
  | _ => []
noncomputable def AdvV (w : World) (C : List Op) (T : List Nat) (op : Op) (s : St) (sc : List St) (room : Nat) : Prop := ∀ (left : Int) (W : List Dat), W.length ≤ 50000 →
  CallOk true w room (.ref 249) [.o 0, .d op.dat, .d s.dat] (obS C T left W) (fun z o => z = .d (wayZ sc) ∧ o = obS C T left (W ++ wayW sc))
theorem stands_ok {w : World} {C : List Op} {T : List Nat} (hl : T.length ≤ 100) {left : Int} {W : List Dat} {i : Nat} :
    CallOk true w 1 (.ref 263) [.o 0, .d Op.fin.dat, .d (.int i)] (obS C T left W) (fun z o => z = .d (.bool (decide (i = T.length))) ∧ o = obS C T left W) := by
  refine enterC (room := 0) (at_stands w) 60 rfl rfl ?_
  (first | refine itT rfl rfl ?_ | refine ixG _ rfl rfl (Nat.le_of_ble_eq_true rfl) ?_)
  (first | refine itT rfl rfl ?_ | refine ixG _ rfl rfl (Nat.le_of_ble_eq_true rfl) ?_)
  refine And.intro (show T.toArray.toList.length ≤ 1000 from Nat.le_trans hl (by decide)) ?_
  by_cases h : i = T.length
  · refine ifT (b := ((i : Int) == (T.toArray.toList.length : Int))) (by subst h; exact beq_self_eq_true _) ?_
    exact ⟨by subst h; rw [decide_eq_true rfl]; congr 2; exact beq_self_eq_true _, rfl⟩
  · refine ifF (b := ((i : Int) == (T.toArray.toList.length : Int))) (beq_eq_false_iff_ne.mpr fun e => h (Int.ofNat_inj.mp e)) ?_
    exact ⟨by rw [decide_eq_false h], rfl⟩
end
section
open PySem.Calls PySem.Spec
theorem obS_eq {C : List Op} {T : List Nat} {left left' : Int} {W W' : List Dat} {z z' : Dat} (h0 : z = z') (h1 : left = left') (h2 : W = W') : XV.d z = XV.d z' ∧ obS C T left W = obS C T left' W' := by subst h0 h1 h2; exact ⟨rfl, rfl⟩
theorem keep_ok {w : World} {C : List Op} {T : List Nat} {left : Int} {W : List Dat} {s : St} (hW : W.length ≤ 50000) (hs : s.gs.length + s.ls.length ≤ 100) :
    CallOk true w 1 (.ref 242) [.o 0, .d s.dat] (obS C T left W) (fun z o => z = .d .none ∧ o = obS C T left (W ++ [s.dat])) := by
  refine enterC (room := 0) (at_keep w) 60 rfl rfl ?_
  refine And.intro (by lia -abstractProof) ?_
  (first | refine itT rfl rfl ?_ | refine ixG _ rfl rfl (Nat.le_of_ble_eq_true rfl) ?_)
  refine And.intro (by lia -abstractProof) ?_
  (first | refine itT rfl rfl ?_ | refine ixG _ rfl rfl (Nat.le_of_ble_eq_true rfl) ?_)
  refine And.intro (by lia -abstractProof) ?_
  refine And.intro (by lia -abstractProof) ?_
  refine ifT rfl ?_
  refine ifF (decide_eq_false ?_) ?_
  · have : W.length * (32 + s.gs.length + s.ls.length) ≤ 50000 * 132 := Nat.mul_le_mul hW (by lia -abstractProof)
    have e : ((W.length : Int) * (32 + s.gs.length + s.ls.length)) = ((W.length * (32 + s.gs.length + s.ls.length) : Nat) : Int) := by rw [Int.natCast_mul, Int.natCast_add, Int.natCast_add]; rfl
    rw [e]; lia -abstractProof
  refine And.intro (by lia -abstractProof) ?_
  exact ⟨rfl, rfl⟩
theorem call_keep {w : World} {rm : Nat} {C : List Op} {T : List Nat} {left : Int} {W : List Dat} (s : St) {P : XV → List MO → Prop} (hr : 1 ≤ rm) (hW : W.length ≤ 50000) (hs : s.gs.length + s.ls.length ≤ 100) (hP : P (.d .none) (obS C T left (W ++ [s.dat]))) :
    CallOk true w rm (.ref 242) [.o 0, .d s.dat] (obS C T left W) P := by
  refine (keep_ok hW hs).mono hr ?_
  rintro z o ⟨rfl, rfl⟩; exact hP
theorem call_changed {un : Bool} {w : World} {rm : Nat} {ds : List Dat} (k : Nat) {y : Dat} {ob : List MO} {P : XV → List MO → Prop} (hr : 1 ≤ rm) (h1 : k < ds.length) (hz : ds.length ≤ 900) (hP : P (.d (.tuple (ds.set k y))) ob) :
    CallOk un w rm (.ref 214) [.d (.tuple ds), .d (.int k), .d y] ob P := by
  refine (changed_ok (Int.natCast_nonneg k) (Int.ofNat_lt.mpr h1) hz).mono hr ?_
  rintro z o ⟨rfl, rfl⟩; exact hP
theorem adv_jump {w : World} {C : List Op} {T : List Nat} {s : St} {a : Nat} : AdvV w C T (.jump a) s (succ T (.jump a) s) 1 := by
  intro left W h1
  refine enterC (room := 0) (at_advance _) 60 rfl rfl ?_
  (first | refine itT rfl rfl ?_ | refine ixG _ rfl rfl (Nat.le_of_ble_eq_true rfl) ?_)
  refine And.intro rfl (And.intro rfl ?_)
  (first | refine itT rfl rfl ?_ | refine ixG _ rfl rfl (Nat.le_of_ble_eq_true rfl) ?_)
  exact obS_eq rfl rfl (List.append_nil _).symm
theorem adv_split {w : World} {C : List Op} {T : List Nat} {s : St} {a b : Nat} (hs : s.gs.length + s.ls.length ≤ 100) : AdvV w C T (.split a b) s (succ T (.split a b) s) 2 := by
  intro left W h1
  refine enterC (room := 1) (at_advance _) 60 rfl rfl ?_
  (first | refine itT rfl rfl ?_ | refine ixG _ rfl rfl (Nat.le_of_ble_eq_true rfl) ?_)
  refine And.intro rfl (And.intro rfl ?_)
  (first | refine itT rfl rfl ?_ | refine ixG _ rfl rfl (Nat.le_of_ble_eq_true rfl) ?_)
  refine call_keep ⟨b, s.i, s.gs, s.ls⟩ (Nat.le_refl _) (by lia -abstractProof) hs ?_
  (first | refine itT rfl rfl ?_ | refine ixG _ rfl rfl (Nat.le_of_ble_eq_true rfl) ?_)
  exact obS_eq rfl rfl rfl
noncomputable def RepV (w : World) (C : List Op) (T : List Nat) (op : Op) (s : St) (sc : List St) (room : Nat) : Prop := ∀ (left : Int) (W : List Dat), W.length ≤ 50000 →
  CallOk true w room (.ref 284) [.o 0, .d op.dat, .d s.dat] (obS C T left W) (fun z o => z = .d (wayZ sc) ∧ o = obS C T left (W ++ wayW sc))
theorem repv_loop {w : World} {C : List Op} {T : List Nat} {s : St} {k : Nat} (hf : Fit T (.loop k) s) (hs : s.gs.length + s.ls.length ≤ 100) : RepV w C T (.loop k) s (succ T (.loop k) s) 2 := by
  intro left W h1
  have hf : k < s.ls.length := hf
  refine enterC (room := 1) (at_rep _) 60 rfl rfl ?_
  refine And.intro rfl ?_
  (first | refine itT rfl rfl ?_ | refine ixG _ rfl rfl (Nat.le_of_ble_eq_true rfl) ?_)
  (first | refine itT rfl rfl ?_ | refine ixG _ rfl rfl (Nat.le_of_ble_eq_true rfl) ?_)
  refine call_changed k (Nat.le_refl _) hf (by lia -abstractProof) ?_
  exact obS_eq rfl rfl (List.append_nil _).symm
theorem repv_tail {w : World} {C : List Op} {T : List Nat} {s : St} {k hh : Nat} {lo : Int} (hf : Fit T (.tail k lo hh) s) (hs : s.gs.length + s.ls.length ≤ 100) : RepV w C T (.tail k lo hh) s (succ T (.tail k lo hh) s) 2 := by
  intro left W h1
  obtain ⟨c, b, hcb⟩ := hf
  have hk := (List.getElem?_eq_some_iff.mp hcb).1
  rw [succ_tail hcb]
  refine enterC (room := 1) (at_rep _) 60 rfl rfl ?_
  refine And.intro rfl ?_
  (first | refine itT rfl rfl ?_ | refine ixG _ rfl rfl (Nat.le_of_ble_eq_true rfl) ?_)
  (first | refine itT rfl rfl ?_ | refine ixG _ rfl rfl (Nat.le_of_ble_eq_true rfl) ?_)
  refine ixG k (index_nat hk) hcb (by lia -abstractProof) ?_
  refine And.intro rfl ?_
  (first | refine itT rfl rfl ?_ | refine ixG _ rfl rfl (Nat.le_of_ble_eq_true rfl) ?_)
  (first | refine itT rfl rfl ?_ | refine ixG _ rfl rfl (Nat.le_of_ble_eq_true rfl) ?_)
  by_cases h2 : lo ≤ c
  · refine ifT (decide_eq_true h2) ?_
    by_cases h3 : b = s.i
    · refine ifT (by simp [h3]) ?_
      rw [if_pos ⟨h2, h3⟩]
      exact obS_eq rfl rfl (List.append_nil _).symm
    · refine ifF (by simp [h3]) ?_
      rw [if_neg fun h => h3 h.2]
      (first | refine itT rfl rfl ?_ | refine ixG _ rfl rfl (Nat.le_of_ble_eq_true rfl) ?_)
      (first | refine itT rfl rfl ?_ | refine ixG _ rfl rfl (Nat.le_of_ble_eq_true rfl) ?_)
      refine call_changed k (Nat.le_refl _) hk (by lia -abstractProof) ?_
      exact obS_eq rfl rfl (List.append_nil _).symm
  · refine ifF (decide_eq_false h2) ?_
    rw [if_neg fun h => h2 h.1]
    (first | refine itT rfl rfl ?_ | refine ixG _ rfl rfl (Nat.le_of_ble_eq_true rfl) ?_)
    (first | refine itT rfl rfl ?_ | refine ixG _ rfl rfl (Nat.le_of_ble_eq_true rfl) ?_)
    refine call_changed k (Nat.le_refl _) hk (by lia -abstractProof) ?_
    exact obS_eq rfl rfl (List.append_nil _).symm
theorem repv_head {w : World} {C : List Op} {T : List Nat} {s : St} {k out : Nat} {lo : Int} {mo : Option Int} {lz : Bool} (hf : Fit T (.head k lo mo lz out) s) (hs : s.gs.length + s.ls.length ≤ 100) : RepV w C T (.head k lo mo lz out) s (succ T (.head k lo mo lz out) s) 2 := by
  intro left W h1
  obtain ⟨c, b, hcb⟩ := hf
  have hk := (List.getElem?_eq_some_iff.mp hcb).1
  rw [succ_head hcb]
  refine enterC (room := 1) (at_rep _) 60 rfl rfl ?_
  refine And.intro rfl ?_
  (first | refine itT rfl rfl ?_ | refine ixG _ rfl rfl (Nat.le_of_ble_eq_true rfl) ?_)
  (first | refine itT rfl rfl ?_ | refine ixG _ rfl rfl (Nat.le_of_ble_eq_true rfl) ?_)
  refine ixG k (index_nat hk) hcb (by lia -abstractProof) ?_
  refine And.intro rfl ?_
  (first | refine itT rfl rfl ?_ | refine ixG _ rfl rfl (Nat.le_of_ble_eq_true rfl) ?_)
  (refine And.intro ⟨Nat.le_of_ble_eq_true rfl, Nat.le_of_ble_eq_true rfl, Nat.le_of_ble_eq_true rfl⟩ ?_)
  refine And.intro rfl ?_
  cases mo with
  | none =>
    refine And.intro ⟨rfl, rfl⟩ ?_
    rw [if_neg (by simp)]
    by_cases hc : c < lo
    · (first | refine itT rfl rfl ?_ | refine ixG _ rfl rfl (Nat.le_of_ble_eq_true rfl) ?_)
      refine call_changed k (Nat.le_refl _) hk (by lia -abstractProof) ?_
      (first | refine ifT (decide_eq_true hc) ?_ | (refine ifT rfl ?_; first | refine ifT (decide_eq_true hc) ?_ | (refine ifT rfl ?_; refine ifT (decide_eq_true hc) ?_)))
      rw [if_pos hc]
      exact obS_eq rfl rfl (List.append_nil _).symm
    · (first | refine itT rfl rfl ?_ | refine ixG _ rfl rfl (Nat.le_of_ble_eq_true rfl) ?_)
      refine call_changed k (Nat.le_refl _) hk (by lia -abstractProof) ?_
      (first | refine ifF (decide_eq_false hc) ?_ | (refine ifT rfl ?_; first | refine ifF (decide_eq_false hc) ?_ | (refine ifT rfl ?_; refine ifF (decide_eq_false hc) ?_)))
      rw [if_neg hc]
      cases lz with
      | true =>
        refine call_keep ⟨s.pc + 1, s.i, s.gs, s.ls.set k (.tuple [.int c, .int s.i])⟩ (Nat.le_refl _) h1 (by rw [List.length_set]; exact hs) ?_
        exact obS_eq rfl rfl rfl
      | false =>
        refine call_keep ⟨out, s.i, s.gs, s.ls⟩ (Nat.le_refl _) h1 hs ?_
        exact obS_eq rfl rfl rfl
  | some mm =>
    by_cases hm : mm ≤ c
    · refine ifT (decide_eq_true hm) ?_
      rw [if_pos (by simp [hm])]
      exact obS_eq rfl rfl (List.append_nil _).symm
    · refine ifF (decide_eq_false hm) ?_
      refine And.intro ⟨rfl, rfl⟩ ?_
      rw [if_neg (by simp [hm])]
      by_cases hc : c < lo
      · (first | refine itT rfl rfl ?_ | refine ixG _ rfl rfl (Nat.le_of_ble_eq_true rfl) ?_)
        refine call_changed k (Nat.le_refl _) hk (by lia -abstractProof) ?_
        (first | refine ifT (decide_eq_true hc) ?_ | (refine ifT rfl ?_; first | refine ifT (decide_eq_true hc) ?_ | (refine ifT rfl ?_; refine ifT (decide_eq_true hc) ?_)))
        rw [if_pos hc]
        exact obS_eq rfl rfl (List.append_nil _).symm
      · (first | refine itT rfl rfl ?_ | refine ixG _ rfl rfl (Nat.le_of_ble_eq_true rfl) ?_)
        refine call_changed k (Nat.le_refl _) hk (by lia -abstractProof) ?_
        (first | refine ifF (decide_eq_false hc) ?_ | (refine ifT rfl ?_; first | refine ifF (decide_eq_false hc) ?_ | (refine ifT rfl ?_; refine ifF (decide_eq_false hc) ?_)))
        rw [if_neg hc]
        cases lz with
        | true =>
          refine call_keep ⟨s.pc + 1, s.i, s.gs, s.ls.set k (.tuple [.int c, .int s.i])⟩ (Nat.le_refl _) h1 (by rw [List.length_set]; exact hs) ?_
          exact obS_eq rfl rfl rfl
        | false =>
          refine call_keep ⟨out, s.i, s.gs, s.ls⟩ (Nat.le_refl _) h1 hs ?_
          exact obS_eq rfl rfl rfl
theorem adv_rep {w : World} {C : List Op} {T : List Nat} {s : St} {op : Op} {sc : List St} (hop : (∃ k, op = .loop k) ∨ (∃ k lo mo lz out, op = .head k lo mo lz out) ∨ ∃ k lo hh, op = .tail k lo hh) (h : RepV w C T op s sc 2) : AdvV w C T op s sc 3 := by
  have fin : ∀ {left : Int} {W : List Dat} {P : XV → List MO → Prop}, W.length ≤ 50000 → P (.d (wayZ sc)) (obS C T left (W ++ wayW sc)) → CallOk true w 2 (.ref 284) [.o 0, .d op.dat, .d s.dat] (obS C T left W) P := fun hW hP => by
    refine CallOk.to ((h _ _ hW)) (Nat.le_refl _) ?_
    exact hP
  rcases hop with ⟨k, rfl⟩ | ⟨k, lo, mo, lz, out, rfl⟩ | ⟨k, lo, hh, rfl⟩
  · intro left W h1
    refine enterC (room := 2) (at_advance _) 60 rfl rfl ?_
    (first | refine itT rfl rfl ?_ | refine ixG _ rfl rfl (Nat.le_of_ble_eq_true rfl) ?_)
    refine And.intro rfl (And.intro rfl ?_)
    exact fin (by lia -abstractProof) (obS_eq rfl rfl rfl)
  · intro left W h1
    refine enterC (room := 2) (at_advance _) 60 rfl rfl ?_
    (first | refine itT rfl rfl ?_ | refine ixG _ rfl rfl (Nat.le_of_ble_eq_true rfl) ?_)
    refine And.intro rfl (And.intro rfl ?_)
    exact fin (by lia -abstractProof) (obS_eq rfl rfl rfl)
  · intro left W h1
    refine enterC (room := 2) (at_advance _) 60 rfl rfl ?_
    (first | refine itT rfl rfl ?_ | refine ixG _ rfl rfl (Nat.le_of_ble_eq_true rfl) ?_)
    refine And.intro rfl (And.intro rfl ?_)
    exact fin (by lia -abstractProof) (obS_eq rfl rfl rfl)
theorem adv_take {w : World} {C : List Op} {T : List Nat} (hT : ∀ k ∈ T, k = 97 ∨ k = 98 ∨ k = 99) (hl : T.length ≤ 100) {op : Op} (hop : op = .any ∨ op = .cls ∨ ∃ c, op = .chr c) {s : St} : AdvV w C T op s (succ T op s) 3 := by
  have fin : ∀ {left : Int} {W : List Dat} {code : Nat} {P : XV → List MO → Prop}, code ∈ T → P (.d (.bool (takesB op code))) (obS C T left W) → CallOk true w 2 (.ref 256) [.o 0, .d op.dat, .d (.int code)] (obS C T left W) P := fun hk hP =>
    CallOk.to (takes_ok hop (by rcases hT _ hk with h | h | h <;> simp [h])) (Nat.le_refl _) hP
  have e : succ T op s = Option.elim T[s.i]? [] fun k => if takesB op k = true then [⟨s.pc + 1, s.i + 1, s.gs, s.ls⟩] else [] := by rcases hop with rfl | rfl | ⟨c, rfl⟩ <;> rfl
  obtain ⟨q, ds, hd, hq, hds⟩ : ∃ (q : Int) (ds : List Dat), op.dat = .tuple (.int q :: ds) ∧ decide (q ≤ 2) = true ∧ (Dat.int q :: ds).length ≤ 1000 := by rcases hop with rfl | rfl | ⟨c, rfl⟩ <;> exact ⟨_, _, rfl, rfl, Nat.le_of_ble_eq_true rfl⟩
  rw [e]
  intro left W h1
  rw [hd] at fin ⊢
  refine enterC (room := 2) (at_advance _) 60 rfl rfl ?_
  refine ixG 0 (index_nat (Nat.succ_pos _)) rfl hds ?_
  refine And.intro rfl (And.intro rfl ?_)
  refine ifT hq ?_
  refine And.intro (show T.toArray.toList.length ≤ 1000 from Nat.le_trans hl (by decide)) ?_
  by_cases hi : s.i < T.length
  · refine ifT (decide_eq_true ?_) ?_
    · show (s.i : Int) < (T.toArray.toList.length : Int); simpa using hi
    refine ixG s.i (v := T[s.i]) rfl ?_ ?_ ?_
    · show T.toArray.toList[s.i]? = _; simp [hi]
    · exact Nat.le_trans hl (by decide)
    refine ⟨T[s.i], rfl, ?_⟩
    rw [List.getElem?_eq_getElem hi, Option.elim_some]
    refine fin (List.getElem_mem hi) ?_
    cases hb : takesB _ T[s.i] with
    | true => exact obS_eq rfl rfl (List.append_nil _).symm
    | false => exact obS_eq rfl rfl (List.append_nil _).symm
  · have hn : decide ((s.i : Int) < (T.toArray.toList.length : Int)) = false := decide_eq_false (by simpa using hi)
    refine ifF hn ?_
    (first | refine ifF hn ?_ | (refine ifT rfl ?_; first | refine ifF hn ?_ | (refine ifT rfl ?_; refine ifF hn ?_)))
    rw [List.getElem?_eq_none (by lia -abstractProof)]
    exact obS_eq rfl rfl (List.append_nil _).symm
theorem adv_fin {w : World} {C : List Op} {T : List Nat} (hl : T.length ≤ 100) {s : St} : AdvV w C T .fin s (succ T .fin s) 2 := by
  intro left W h1
  refine enterC (room := 1) (at_advance _) 60 rfl rfl ?_
  (first | refine itT rfl rfl ?_ | refine ixG _ rfl rfl (Nat.le_of_ble_eq_true rfl) ?_)
  refine And.intro rfl (And.intro rfl ?_)
  refine CallOk.to ((stands_ok hl)) (Nat.le_refl _) ?_
  have e : succ T .fin s = if s.i = T.length then [⟨s.pc + 1, s.i, s.gs, s.ls⟩] else [] := rfl
  rw [e]
  by_cases h : s.i = T.length
  · rw [if_pos h]
    refine ifT (decide_eq_true h) ?_
    exact obS_eq rfl rfl (List.append_nil _).symm
  · rw [if_neg h]
    refine ifF (decide_eq_false h) ?_
    exact obS_eq rfl rfl (List.append_nil _).symm
theorem adv_opn {w : World} {C : List Op} {T : List Nat} {s : St} {n : Nat} (hf : Fit T (.opn n) s) (hs : s.gs.length + s.ls.length ≤ 100) : AdvV w C T (.opn n) s (succ T (.opn n) s) 2 := by
  intro left W h1
  obtain ⟨f1, f2⟩ := hf
  refine enterC (room := 1) (at_advance _) 60 rfl rfl ?_
  (first | refine itT rfl rfl ?_ | refine ixG _ rfl rfl (Nat.le_of_ble_eq_true rfl) ?_)
  refine And.intro rfl (And.intro rfl ?_)
  refine And.intro (by lia -abstractProof) ?_
  (first | refine itT rfl rfl ?_ | refine ixG _ rfl rfl (Nat.le_of_ble_eq_true rfl) ?_)
  have e : ((s.ls.length : Int) - (n : Int)) = ((s.ls.length - n : Nat) : Int) := by lia -abstractProof
  show CallOk true w 1 (.ref 214) [.d (.tuple s.ls), .d (.int ((s.ls.length : Int) - (n : Int))), _] _ _
  rw [e]
  refine call_changed _ (Nat.le_refl _) (by lia -abstractProof) (by lia -abstractProof) ?_
  exact obS_eq rfl rfl (List.append_nil _).symm
theorem adv_clo {w : World} {C : List Op} {T : List Nat} {s : St} {n : Nat} (hf : Fit T (.clo n) s) (hs : s.gs.length + s.ls.length ≤ 100) : AdvV w C T (.clo n) s (succ T (.clo n) s) 2 := by
  intro left W h1
  obtain ⟨f1, f2, f3, b, f4⟩ := hf
  have es : succ T (.clo n) s = [⟨s.pc + 1, s.i, s.gs.set (n - 1) (.tuple [.int b, .int s.i]), s.ls⟩] := by
    show Option.elim s.ls[s.ls.length - n]? [] _ = _
    rw [f4]; rfl
  rw [es]
  refine enterC (room := 1) (at_advance _) 60 rfl rfl ?_
  (first | refine itT rfl rfl ?_ | refine ixG _ rfl rfl (Nat.le_of_ble_eq_true rfl) ?_)
  refine And.intro rfl (And.intro rfl ?_)
  (first | refine itT rfl rfl ?_ | refine ixG _ rfl rfl (Nat.le_of_ble_eq_true rfl) ?_)
  refine And.intro (by lia -abstractProof) ?_
  (first | refine itT rfl rfl ?_ | refine ixG _ rfl rfl (Nat.le_of_ble_eq_true rfl) ?_)
  have e : ((s.ls.length : Int) - (n : Int)) = ((s.ls.length - n : Nat) : Int) := by lia -abstractProof
  refine ixG (s.ls.length - n) (by rw [e]; exact index_nat (by lia -abstractProof)) f4 (by lia -abstractProof) ?_
  have e2 : ((n : Int) - 1) = ((n - 1 : Nat) : Int) := by lia -abstractProof
  show CallOk true w 1 (.ref 214) [.d (.tuple s.gs), .d (.int ((n : Int) - 1)), _] _ _
  rw [e2]
  refine call_changed _ (Nat.le_refl _) (by lia -abstractProof) (by lia -abstractProof) ?_
  exact obS_eq rfl rfl (List.append_nil _).symm
theorem again_turns {ob : List MO} {e : Int} {P : XF → List (Str × XV) → List MO → Prop} {zs : List (Nat × Nat)} : ∀ {l : List (Str × XV)}, l.lookup (Str.ofString "end") = some (.d (.int e)) → ((∀ p ∈ zs, p.1 = p.2) → ∀ l', l'.lookup (Str.ofString "end") = some (.d (.int e)) → P .next l' ob) → ((∃ p ∈ zs, p.1 ≠ p.2) → ∀ l', P (.ret (.d .none)) l' ob) →
    forZ (Str.ofString "one") (Str.ofString "other") P zs l ob := by
  induction zs with
  | nil => intro l he h1 _; exact h1 (fun _ h => nomatch h) l he
  | cons p zs ih =>
    intro l he h1 h2
    by_cases h : p.1 = p.2
    · refine ifT (b := p.1 == p.2) (by rw [h]; simp) ?_
      exact ih he (fun k => h1 fun q hq => (List.mem_cons.mp hq).elim (fun e => e ▸ h) (k q)) fun ⟨q, hq, k⟩ => h2 ⟨q, .tail _ hq, k⟩
    · refine ifF (b := p.1 == p.2) (by simp [h]) ?_
      exact h2 ⟨p, .head _, h⟩ _
noncomputable def againD (T : List Nat) (g : Dat) (i : Nat) : Dat := cond (isNoD g) (.int i) ((asBE g).elim .none fun p => if (T.drop p.1).take (p.2 - p.1) = (T.drop i).take (p.2 - p.1) then .int (i + (p.2 - p.1) : Nat) else .none)
theorem zip_all {A B : List Nat} (h : A.length = B.length) : (∀ p ∈ A.zip B, p.1 = p.2) ↔ A = B := by
  induction A generalizing B with
  | nil => cases B with
    | nil => exact ⟨fun _ => rfl, fun _ _ h => nomatch h⟩
    | cons _ _ => cases h
  | cons a A ih =>
    cases B with
    | nil => cases h
    | cons b B =>
      have ih := ih (B := B) (Nat.succ.inj h)
      constructor
      · intro k
        rw [show a = b from k (a, b) (.head _), ih.mp fun p hp => k p (.tail _ hp)]
      · intro k
        injection k with k1 k2
        intro p hp
        rcases List.mem_cons.mp hp with rfl | hp
        · exact k1
        · exact ih.mpr k2 p hp
theorem again_ok {w : World} {C : List Op} {T : List Nat} (hl : T.length ≤ 100) {left : Int} {W : List Dat} {i : Nat} (hi : i ≤ T.length) {g : Dat} (hg : g = .none ∨ ∃ b e : Nat, g = .tuple [.int b, .int e] ∧ b ≤ e ∧ e ≤ T.length) :
    CallOk true w 1 (.ref 270) [.o 0, .d g, .d (.int i)] (obS C T left W) (fun z o => z = .d (againD T g i) ∧ o = obS C T left W) := by
  refine enterC (room := 0) (at_again w) 60 rfl rfl ?_
  rcases hg with rfl | ⟨b, e, rfl, hbe, heT⟩
  · exact ⟨rfl, rfl⟩
  have hz : T.toArray.toList.length ≤ 1000 := Nat.le_trans hl (by decide)
  have ha : againD T (.tuple [.int b, .int e]) i = if (T.drop b).take (e - b) = (T.drop i).take (e - b) then .int (i + (e - b) : Nat) else .none := rfl
  have he : ((i : Int) + e - b) = ((i + (e - b) : Nat) : Int) := by lia -abstractProof
  (first | refine itT rfl rfl ?_ | refine ixG _ rfl rfl (Nat.le_of_ble_eq_true rfl) ?_)
  (first | refine itT rfl rfl ?_ | refine ixG _ rfl rfl (Nat.le_of_ble_eq_true rfl) ?_)
  refine And.intro hz ?_
  by_cases h : T.length < i + (e - b)
  · refine ifT (b := decide ((T.toArray.toList.length : Int) < (i : Int) + e - b)) (decide_eq_true (by rw [he]; exact Int.ofNat_lt.mpr h)) ?_
    refine ⟨?_, rfl⟩
    rw [ha, if_neg fun k => Nat.not_le.mpr h (slice_len hbe heT k hi)]
  · refine ifF (b := decide ((T.toArray.toList.length : Int) < (i : Int) + e - b)) (decide_eq_false (by rw [he]; exact fun k => h (Int.ofNat_lt.mp k))) ?_
    refine ⟨_, _, ⟨_, _, _, _, _, _, _, _, _, _, _, _, _, rfl⟩, ?_⟩
    (first | refine itT rfl rfl ?_ | refine ixG _ rfl rfl (Nat.le_of_ble_eq_true rfl) ?_)
    (first | refine itT rfl rfl ?_ | refine ixG _ rfl rfl (Nat.le_of_ble_eq_true rfl) ?_)
    refine And.intro hz ?_
    refine And.intro hz ?_
    have h1 : (Txt.slice ⟨T.toArray⟩ (some (b : Int)) (some (e : Int))) = ⟨((T.drop b).take (e - b)).toArray⟩ := slice_nat (by lia -abstractProof)
    have h2 : (Txt.slice ⟨T.toArray⟩ (some (i : Int)) (some ((i : Int) + e - b))) = ⟨((T.drop i).take (e - b)).toArray⟩ := by
      rw [he, slice_nat hi, show i + (e - b) - i = e - b by lia -abstractProof]
    have l1 : ((T.drop b).take (e - b)).length = e - b := by rw [List.length_take, List.length_drop]; lia -abstractProof
    have l2 : ((T.drop i).take (e - b)).length = e - b := by rw [List.length_take, List.length_drop]; lia -abstractProof
    refine And.intro rfl ?_
    show forZ _ _ _ ((Txt.slice ⟨T.toArray⟩ (some (b : Int)) (some (e : Int))).cps.toList.zip (Txt.slice ⟨T.toArray⟩ (some (i : Int)) (some ((i : Int) + e - b))).cps.toList) _ _
    rw [h1, h2]
    have hq := zip_all (l1.trans l2.symm)
    refine again_turns (e := (i : Int) + e - b) rfl (fun k l' hl' => ?_) fun k l' => ?_
    · refine optE hl' ?_
      exact ⟨by rw [ha, if_pos (hq.mp k), he], rfl⟩
    · refine ⟨?_, rfl⟩
      rw [ha, if_neg fun k2 => by obtain ⟨p, hp, hne⟩ := k; exact hne (hq.mpr k2 p hp)]
theorem adv_back {w : World} {C : List Op} {T : List Nat} (hl : T.length ≤ 100) {s : St} {n : Nat} (hi : s.i ≤ T.length) (hf : Fit T (.back n) s) (hs : s.gs.length + s.ls.length ≤ 100) : AdvV w C T (.back n) s (succ T (.back n) s) 2 := by
  intro left W h1
  obtain ⟨f1, hg⟩ := hf
  obtain ⟨g, eg, hg⟩ : ∃ g, s.gs[n - 1]? = some g ∧ (g = .none ∨ ∃ b e : Nat, g = .tuple [.int b, .int e] ∧ b ≤ e ∧ e ≤ T.length) := by
    rcases hg with hg | ⟨b, e, hg, h2, h3⟩
    · exact ⟨_, hg, .inl rfl⟩
    · exact ⟨_, hg, .inr ⟨b, e, rfl, h2, h3⟩⟩
  have hlt := (List.getElem?_eq_some_iff.mp eg).1
  have es : succ T (.back n) s = cond (isNoD g) [⟨s.pc + 1, s.i, s.gs, s.ls⟩] (Option.elim (asBE g) [] fun p => if (T.drop p.1).take (p.2 - p.1) = (T.drop s.i).take (p.2 - p.1) then [⟨s.pc + 1, s.i + (p.2 - p.1), s.gs, s.ls⟩] else []) := by
    show Option.elim s.gs[n - 1]? [] _ = _
    rw [eg]; rfl
  rw [es]
  refine enterC (room := 1) (at_advance _) 60 rfl rfl ?_
  (first | refine itT rfl rfl ?_ | refine ixG _ rfl rfl (Nat.le_of_ble_eq_true rfl) ?_)
  refine And.intro rfl (And.intro rfl ?_)
  (first | refine itT rfl rfl ?_ | refine ixG _ rfl rfl (Nat.le_of_ble_eq_true rfl) ?_)
  have e2 : ((n : Int) - 1) = ((n - 1 : Nat) : Int) := by lia -abstractProof
  refine ixG (n - 1) (by rw [e2]; exact index_nat hlt) eg (by lia -abstractProof) ?_
  refine CallOk.to ((again_ok hl hi hg)) (Nat.le_refl _) ?_
  rcases hg with rfl | ⟨b, e, rfl, hbe, heT⟩
  · exact obS_eq rfl rfl (List.append_nil _).symm
  · have ha : againD T (.tuple [.int b, .int e]) s.i = if (T.drop b).take (e - b) = (T.drop s.i).take (e - b) then .int (s.i + (e - b) : Nat) else .none := rfl
    rw [ha]
    show _
    by_cases h : (T.drop b).take (e - b) = (T.drop s.i).take (e - b)
    · rw [if_pos h]
      have ew : (cond (isNoD (.tuple [.int b, .int e])) [⟨s.pc + 1, s.i, s.gs, s.ls⟩] (Option.elim (asBE (.tuple [.int b, .int e])) [] fun p => if (T.drop p.1).take (p.2 - p.1) = (T.drop s.i).take (p.2 - p.1) then [⟨s.pc + 1, s.i + (p.2 - p.1), s.gs, s.ls⟩] else []) : List St) = [⟨s.pc + 1, s.i + (e - b), s.gs, s.ls⟩] := if_pos h
      rw [ew]
      exact obS_eq rfl rfl (List.append_nil _).symm
    · rw [if_neg h]
      have ew : (cond (isNoD (.tuple [.int b, .int e])) [⟨s.pc + 1, s.i, s.gs, s.ls⟩] (Option.elim (asBE (.tuple [.int b, .int e])) [] fun p => if (T.drop p.1).take (p.2 - p.1) = (T.drop s.i).take (p.2 - p.1) then [⟨s.pc + 1, s.i + (p.2 - p.1), s.gs, s.ls⟩] else []) : List St) = [] := if_neg h
      rw [ew]
      exact obS_eq rfl rfl (List.append_nil _).symm
end
section
open PySem.Calls PySem.Spec
noncomputable abbrev obR (C : List Op) (T : List Nat) (left : Int) (g : MO) (W : List Dat) : List MO := [.inst 287 (seF T left 3), .lst (C.map Op.dat), g, .lst W]
theorem CallOk.relay {w : World} {room : Nat} {f : Value} {xs : List XV} {C : List Op} {T : List Nat} {left0 left : Int} {W0 W : List Dat} {z0 : Dat} (h : CallOk true w room f xs (obS C T left0 W0) fun z o => z = .d z0 ∧ (o = obS C T left W ∨ ∃ W', o = obR C T left (.lst W') W)) :
    CallOk true w room f xs (obS C T left0 W0) fun z o => z = .d z0 ∧ o = obS C T left W := by
  constructor
  intro vs ad O R hr1 hn ho hd
  refine (h.ok vs ad O R hr1 hn ho hd).conv (Nat.le_refl _) (fun _ h => h) fun h₀ h' L r news' N' p => ?_
  obtain ⟨z, ob', ad', O', R', ⟨rfl, ho'⟩, rfl, hr', hnd, hoff, hd', hg⟩ := p
  rcases ho' with rfl | ⟨W', rfl⟩
  · exact ⟨_, fun _ h => h, _, _, ad', O', R', ⟨rfl, rfl⟩, rfl, hr', hnd, hoff, hd', hg⟩
  obtain ⟨as', O1, Y, hp, h1, hi, _⟩ := rows_sel (σ := [0, 1, 3]) hr' rfl
  have ha : ∀ (k : Nat) (a : Addr), (k == 0 || (k == 1 || k == 3)) = true → ad'[k]? = some a → as'[if k = 3 then 2 else k]? = some a := fun k a hk e => by
    rcases Bool.or_eq_true_iff.mp hk with hk | hk
    · obtain rfl := beq_iff_eq.mp hk; exact (hi 0 0 rfl).trans e
    rcases Bool.or_eq_true_iff.mp hk with hk | hk
    · obtain rfl := beq_iff_eq.mp hk; exact (hi 1 1 rfl).trans e
    · obtain rfl := beq_iff_eq.mp hk; exact (hi 2 3 rfl).trans e
  refine ⟨O1 ++ R', fun p hp' => (List.mem_append.mp hp').elim (fun hp' => mem_l (perm_l hp hp')) mem_r, _, obS C T left W, as', O1, R', ⟨rfl, rfl⟩, rfl, ?_, perm_nd hp hnd, perm_off hp hoff, ?_, ⟨fun k b e c => ?_, hg.ext⟩⟩
  · exact rows_sh (f := fun k => if k = 3 then 2 else k) (p := fun k => k == 0 || (k == 1 || k == 3)) ha tsub_refl rfl h1
  · cases hd' with
    | d hd' => exact .d hd'
  · have hk3 : k < 3 := by have := (List.getElem?_eq_some_iff.mp e).1; rw [hr1.length] at this; exact this
    have c : k ≠ 2 := by rcases c with c | c | c; exact nomatch c; exact nomatch c; exact c
    have e' := hg.adr k b e (.inr (.inr c))
    have hk : k = 0 ∨ k = 1 := by lia -abstractProof
    rcases hk with rfl | rfl
    · exact (hi 0 0 rfl).trans e'
    · exact (hi 1 1 rfl).trans e'
end
section
open PySem.Calls PySem.Spec
noncomputable def resD : Option (Nat × List Dat) → Dat
  | none => .none
  | some (i, g) => .tuple [.int i, .tuple g]
noncomputable def RunV (w : World) (C : List Op) (T : List Nat) (n : Nat) (s : St) (r : Option (Nat × List Dat)) : Prop := ∀ (left : Int) (W : List Dat), W.length + n ≤ 50000 → (n : Int) ≤ left →
  CallOk true w 5 (.ref 235) [.o 0, .d (.int s.pc), .d (.int s.i), .d (.tuple s.gs), .d (.tuple s.ls)] (obS C T left W) (fun z o => z = .d (resD r) ∧ o = obS C T (left - n) W)
noncomputable def stkW (W : List Dat) (S : List St) : List Dat := W ++ (S.map St.dat).reverse
structure RunI (C : List Op) (T : List Nat) (G Lq : Nat) (r : Option (Nat × List Dat)) (W : List Dat) (n0 : Nat) (left : Int) (l : List (Str × XV)) (ob : List MO) (m : Nat) : Prop where
  ex : ∃ stk : List St, l = [(Str.ofString "state", .d (wayZ stk)), (Str.ofString "bottom", .d (.int W.length)), (Str.ofString "self", .o 0)] ∧ ob = obS C T (left - n0 + m) (stkW W stk.tail) ∧ Out C T m stk r ∧ (∀ s ∈ stk, Sized T G Lq s) ∧ m ≤ n0 ∧ W.length + stk.tail.length + m ≤ 50000
theorem op_head (op : Op) : ∃ q ds, op.dat = .tuple (.int q :: ds) ∧ (op = .met ↔ q = 15) ∧ ds.length < 900 := by cases op <;> exact ⟨_, _, rfl, by simp, by simp⟩
theorem stkW_cons {W : List Dat} {s : St} {S : List St} : stkW W (s :: S) = stkW W S ++ [s.dat] := by
  unfold stkW
  rw [List.map_cons, List.reverse_cons, List.append_assoc]
theorem stkW_len {W : List Dat} {S : List St} : (stkW W S).length = W.length + S.length := by simp [stkW]
theorem stkW_take {W : List Dat} {S : List St} : (stkW W S).take (W.length : Int).toNat = W := by
  unfold stkW
  show List.take W.length _ = W
  rw [List.take_append_of_le_length (Nat.le_refl _), List.take_length]
theorem AdvV.mono {w : World} {C : List Op} {T : List Nat} {op : Op} {s : St} {sc : List St} {r r' : Nat} (h : AdvV w C T op s sc r) (hr : r ≤ r') : AdvV w C T op s sc r' := fun left W h1 => (h left W h1).mono hr fun _ _ h => h
noncomputable def StepsV (w : World) (C : List Op) (T : List Nat) (G Lq : Nat) : Prop := ∀ (op : Op) (s : St), Sized T G Lq s → Fit T op s → AdvV w C T op s (succ T op s) 4
set_option maxHeartbeats 1000000 in
theorem run_ok {w : World} {C : List Op} {T : List Nat} {G Lq : Nat} (hC : C.length ≤ 1000) {n0 : Nat} {s₀ : St} {r : Option (Nat × List Dat)} (h0 : Out C T n0 [s₀] r) (hs0 : Sized T G Lq s₀)
    (hst : StepsV w C T G Lq) : RunV w C T n0 s₀ r := by
  intro left W hW hleft
  refine CallOk.relay ?_
  refine enterC (room := 4) (at_run w) 80 rfl rfl ?_
  refine And.intro (by lia -abstractProof) ?_
  refine whI (RunI C T G Lq r W n0 left) n0 [(Str.ofString "state", .d s₀.dat), (Str.ofString "bottom", .d (.int W.length)), (Str.ofString "self", .o 0)] ⟨rfl, rfl, rfl, trivial⟩ ⟨[s₀], rfl, ?_, h0, fun s hs => by rw [List.mem_singleton.mp hs]; exact hs0, Nat.le_refl _, by simpa using hW⟩ ?_
  · show obS C T left W = obS C T (left - n0 + n0) (W ++ [])
    rw [Int.sub_add_cancel, List.append_nil]
  rintro l1 ob1 m ⟨stk, rfl, rfl, ho, hz, hm, hroom⟩
  cases stk with
  | nil =>
    cases ho
    exact ⟨rfl, .inl (by show obS C T (left - n0 + (0 : Nat)) (W ++ []) = _; rw [List.append_nil]; simp)⟩
  | cons s₁ S =>
    have hop : ∃ op, C[s₁.pc]? = some op := by cases ho <;> exact ⟨_, by assumption⟩
    obtain ⟨op, hop⟩ := hop
    obtain ⟨q, ds, ed, hq, hds⟩ := op_head op
    have hop' : (C.map Op.dat)[s₁.pc]? = some (.tuple (.int q :: ds)) := by rw [List.getElem?_map, hop]; exact congrArg some ed
    have hm1 : 1 ≤ m := by cases ho <;> lia -abstractProof
    have hroom : W.length + S.length + m ≤ 50000 := hroom
    have hlS : (stkW W S).length = W.length + S.length := by simp [stkW]
    refine ifF (decide_eq_false (by lia -abstractProof)) ?_
    (first | refine itT rfl rfl ?_ | refine ixG _ rfl rfl (Nat.le_of_ble_eq_true rfl) ?_)
    refine ixG s₁.pc rfl hop' (by rw [List.length_map]; lia -abstractProof) ?_
    refine ixG 0 (index_nat (Nat.succ_pos _)) rfl (by simp; lia -abstractProof) ?_
    by_cases hmet : op = .met
    · have hb : (q == 15) = true := by simp [hq.mp hmet]
      (first | refine ifT hb ?_ | (refine ifT rfl ?_; first | refine ifT hb ?_ | (refine ifT rfl ?_; refine ifT hb ?_)))
      subst hmet
      refine And.intro ⟨by show (stkW W S).length ≤ _; rw [hlS]; lia -abstractProof, Int.natCast_nonneg _⟩ ?_
      (first | refine itT rfl rfl ?_ | refine ixG _ rfl rfl (Nat.le_of_ble_eq_true rfl) ?_)
      (first | refine itT rfl rfl ?_ | refine ixG _ rfl rfl (Nat.le_of_ble_eq_true rfl) ?_)
      cases ho with
      | met _ =>
        refine ⟨rfl, .inr ⟨stkW W S, ?_⟩⟩
        show obR C T (left - n0 + (1 : Nat) - 1) (.lst (stkW W S)) ((stkW W S).take (W.length : Int).toNat) = _
        rw [stkW_take, show left - (n0 : Int) + (1 : Nat) - 1 = left - n0 by lia -abstractProof]
      | step h1 h2 h3 => rw [h1] at hop; injection hop with e; subst e; exact h2.elim
    · have hb : (q == 15) = false := by simpa using fun h => hmet (hq.mpr h)
      (first | refine ifF hb ?_ | (refine ifT rfl ?_; first | refine ifF hb ?_ | (refine ifT rfl ?_; refine ifF hb ?_)))
      have hs1 := hz _ (.head _)
      obtain ⟨sc, n', rfl, ho', hz', hadv, hsc⟩ : ∃ sc n', m = n' + 1 ∧ Out C T n' (sc ++ S) r ∧ (∀ a ∈ sc, Sized T G Lq a) ∧ AdvV w C T op s₁ sc 4 ∧ sc.length ≤ 2 := by
        cases ho with
        | met hm' => rw [hm'] at hop; injection hop with e; exact (hmet e.symm).elim
        | step h1 h2 h3 =>
          rw [h1] at hop; injection hop with e; subst e
          exact ⟨_, _, rfl, h3, succ_sized hs1 h2, hst _ _ hs1 h2, succ_two T _ _⟩
      have hadv := hadv (left - n0 + (n' + 1 : Nat) - 1) (stkW W S) (by rw [hlS]; lia -abstractProof)
      rw [ed] at hadv
      refine CallOk.to (hadv) (Nat.le_refl _) ?_
      have hzS : ∀ s ∈ S, Sized T G Lq s := fun s hs => hz s (.tail _ hs)
      have hcn : left - n0 + ((n' + 1 : Nat) : Int) - 1 = left - n0 + n' := by lia -abstractProof
      rw [hcn]
      have next : ∀ (stk' : List St) (l : List (Str × XV)) (left' : Int) (W' : List Dat), l.lookup (Str.ofString "state") = some (.d (wayZ stk')) → l.lookup (Str.ofString "bottom") = some (.d (.int W.length)) → l.lookup (Str.ofString "self") = some (.o 0) → W' = stkW W stk'.tail → Out C T n' stk' r → (∀ s ∈ stk', Sized T G Lq s) → stk'.tail.length ≤ S.length + 1 →
          ∃ n1 l1, n1 < n' + 1 ∧ subL l1 l ∧ RunI C T G Lq r W n0 left l1 (obS C T (left - n0 + n') W') n1 := fun stk' l left' W' e1 e2 e3 e4 e5 e6 e7 =>
        ⟨n', [(Str.ofString "state", .d (wayZ stk')), (Str.ofString "bottom", .d (.int W.length)), (Str.ofString "self", .o 0)], by lia -abstractProof, ⟨e1, e2, e3, trivial⟩, ⟨stk', rfl, by rw [e4], e5, e6, by lia -abstractProof, by lia -abstractProof⟩⟩
      have app : ∀ a ∈ sc ++ S, Sized T G Lq a := fun a ha => (List.mem_append.mp ha).elim (hz' a) (hzS a)
      cases sc with
      | nil =>
        have hlen : (stkW W S ++ wayW []).length = W.length + S.length := by rw [show wayW [] = [] from rfl, List.append_nil, hlS]
        refine And.intro (by rw [hlen]; lia -abstractProof) ?_
        cases S with
        | nil =>
          (first | refine ifF (decide_eq_false (by rw [hlen]; simp)) ?_ | (refine ifT rfl ?_; first | refine ifF (decide_eq_false (by rw [hlen]; simp)) ?_ | (refine ifT rfl ?_; refine ifF (decide_eq_false (by rw [hlen]; simp)) ?_)))
          exact next [] _ left _ rfl rfl rfl (List.append_nil _) ho' app (Nat.zero_le _)
        | cons s2 S' =>
          (first | refine ifT (decide_eq_true (by rw [hlen]; simp; lia -abstractProof)) ?_ | (refine ifT rfl ?_; first | refine ifT (decide_eq_true (by rw [hlen]; simp; lia -abstractProof)) ?_ | (refine ifT rfl ?_; refine ifT (decide_eq_true (by rw [hlen]; simp; lia -abstractProof)) ?_)))
          refine ixH (stkW W S') s2.dat ((List.append_nil _).trans stkW_cons) (by rw [stkW_len]; simp at hroom; lia -abstractProof) ?_
          exact next (s2 :: S') _ left _ rfl rfl rfl rfl ho' app (by simp; lia -abstractProof)
      | cons a sc =>
        cases sc with
        | nil => exact next (a :: S) _ left _ rfl rfl rfl (List.append_nil _) ho' app (by simp)
        | cons b sc =>
          cases sc with
          | nil => exact next (a :: b :: S) _ left _ rfl rfl rfl stkW_cons.symm ho' app (by simp)
          | cons c sc => exact absurd hsc (by simp)
end
section
open PySem.Calls PySem.Spec
theorem steps_all {w : World} {C : List Op} {T : List Nat} (hT : ∀ k ∈ T, k = 97 ∨ k = 98 ∨ k = 99) (hl : T.length ≤ 100) {G Lq : Nat} (hGL : G + Lq ≤ 100) : StepsV w C T G Lq := by
  intro op s hs hf
  have hsz : s.gs.length + s.ls.length ≤ 100 := by rw [hs.1, hs.2.1]; exact hGL
  cases op with
  | chr c => exact (adv_take hT hl (.inr (.inr ⟨c, rfl⟩))).mono (by lia -abstractProof)
  | any => exact (adv_take hT hl (.inl rfl)).mono (by lia -abstractProof)
  | cls => exact (adv_take hT hl (.inr (.inl rfl))).mono (by lia -abstractProof)
  | split a b => exact (adv_split hsz).mono (by lia -abstractProof)
  | jump a => exact adv_jump.mono (by lia -abstractProof)
  | loop k => exact (adv_rep (.inl ⟨_, rfl⟩) (repv_loop hf hsz)).mono (by lia -abstractProof)
  | head k lo mo lz out => exact (adv_rep (.inr (.inl ⟨_, _, _, _, _, rfl⟩)) (repv_head hf hsz)).mono (by lia -abstractProof)
  | tail k lo hh => exact (adv_rep (.inr (.inr ⟨_, _, _, rfl⟩)) (repv_tail hf hsz)).mono (by lia -abstractProof)
  | fin => exact (adv_fin hl).mono (by lia -abstractProof)
  | opn n => exact (adv_opn hf hsz).mono (by lia -abstractProof)
  | clo n => exact (adv_clo hf hsz).mono (by lia -abstractProof)
  | back n => exact (adv_back hl hs.2.2 hf hsz).mono (by lia -abstractProof)
  | met => exact hf.elim
end
section
open PySem.Calls PySem.Spec
theorem Rows.snocI {P : Params} {ad : List Addr} {R : List (Addr × Obj)} {x dx C : Addr} {ob : List MO} {as : List Addr} {O : List (Addr × Obj)} (h : Rows P ad R ob as O) : Rows P ad R (ob ++ [.inst C []]) (as ++ [x]) (O ++ [(x, instObj C dx), (dx, dictOf [] 0)]) := rows_join h (.inst .nil .nil)
structure FnIn (w : World) (f : Addr) (ps : List Str) (body : List Stmt) (sc : Scope) (dv : List Value) : Prop where
  get : ∃ (oc : Value) (od : Option Addr) (osl : Array (Option Value)) (name qual : Str) (params : Arguments) (dV kV doc pm : Value) (an : Option Addr) (cdv ct : Value),
    List.lookup f (heap w.params) = some ⟨oc, od, .func (fnOf name qual params body sc dV kV doc pm an cdv ct), osl⟩ ∧ codeIn (heap w.params) cdv qual = true ∧
      ∀ vs : List Value, (vs ++ dv).length = ps.length → ∀ s : Shared, (heap w.params).In s.heap → BindsTo s (fnOf name qual params body sc dV kV doc pm an cdv ct) ⟨vs, []⟩ (ps.zip (vs ++ dv))
  ok : scopeOk sc ps = true
theorem FnAt.inn {w : World} {f : Addr} {ps : List Str} {body : List Stmt} {sc : Scope} (D : FnAt w f ps body sc) : FnIn w f ps body sc [] := by
  obtain ⟨oc, od, osl, name, qual, params, dV, kV, doc, pm, an, cdv, ct, e1, e2, e3⟩ := D.get
  exact ⟨⟨oc, od, osl, name, qual, params, dV, kV, doc, pm, an, cdv, ct, e1, e2, fun vs h s _ => by rw [List.append_nil] at h ⊢; exact e3 vs h s⟩, D.ok⟩
theorem enterN {w : World} {un : Bool} {room : Nat} {C fI : Addr} (hm : makesIn (heap w.params) C = true) (hi : findIn (heap w.params) (.ref C) "__init__" = some (some (.ref fI))) (hf : isFn (heap w.params) (.ref fI) = true)
    {ps : List Str} {body : List Stmt} {sc : Scope} {dv : List Value} {xd : List XV} (D : FnIn w fI ps body sc dv) (hdx : ∀ ad R, DenL ad R dv xd) (fu : Nat) {xs : List XV} {ob : List MO} {P : XV → List MO → Prop} (hl : (XV.o ob.length :: xs ++ xd).length = ps.length) (hst : (XV.o ob.length :: xs ++ xd).all (stb un) = true)
    (hw : wSs (cfgC w sc un room) fu body (ps.zip (XV.o ob.length :: xs ++ xd)).reverse (ob ++ [.inst C []]) (retX fun z o => z = .d .none ∧ P (.o ob.length) o)) : CallOk un w (room + 3) (.ref C) xs ob P := by
  constructor
  intro vs ad O R hr hnd hoff hd mean mg mb dp uu gd cn cs a ccd cl outer A₀ base h₀ L m s Q E B F X N T hkf hdp hun hret
  refine call_cls F X N hm hi hf fun x dx h1 F1 N1 l1 l2 => ?_
  obtain ⟨oc, od, osl, name, qual, params, dV, kV, doc, pm, an, cdv, ct, e1, e2, e3⟩ := D.get
  have hk := D.ok
  unfold scopeOk at hk
  simp only [Bool.and_eq_true, Bool.not_eq_true', beq_iff_eq, List.all_eq_true, bne_iff_ne] at hk
  obtain ⟨⟨⟨⟨k1, k2⟩, k3⟩, k4⟩, k5⟩ := hk
  have hvl : (Value.ref x :: vs ++ dv).length = ps.length := by rw [← hl, List.length_append, List.length_append, List.length_cons, List.length_cons, hd.length, (hdx [] []).length]
  refine code_def B F1 X N1 T rfl rfl hkf e1 e2 ?_ (e3 _ hvl _ (X.keeps F1.keep)) (fun y hy => k5 _ (List.of_mem_zip hy).1) ?_ k1 k2 k3 (fun x hx => (k4 x hx).1)
  · show dp + 1 < recursionLimit
    lia -abstractProof
  intro g L' h' FG F' N' B' X' T'
  have ln : ad.length = ob.length := hr.length
  have hx : (ad ++ [x])[ob.length]? = some x := by rw [← ln]; simp
  have hmem : ∀ p ∈ (O ++ [(x, instObj C dx), (dx, dictOf [] 0)]) ++ R, p ∈ (x, instObj C dx) :: (dx, dictOf [] 0) :: (O ++ R) := fun p hp => by
    rw [List.append_assoc] at hp
    exact mem_mid (B := O) (A := [(x, instObj C dx), (dx, dictOf [] 0)]) hp
  have hkey : keys (O ++ [(x, instObj C dx), (dx, dictOf [] 0)]) = keys O ++ [x, dx] := List.map_append
  have hO : ∀ b ∈ keys O, b < dx := fun b hb => by
    obtain ⟨p, hp, rfl⟩ := List.mem_map.mp hb
    exact l1 p (List.mem_append.mpr (.inl hp))
  have V0 : Rows w.params (ad ++ [x]) R (ob ++ [.inst C []]) (ad ++ [x]) (O ++ [(x, instObj C dx), (dx, dictOf [] 0)]) := (hr.snocI).mono ad_left tsub_refl
  have hnd' : (keys (O ++ [(x, instObj C dx), (dx, dictOf [] 0)])).Nodup := by
    rw [hkey]
    refine List.nodup_append.mpr ⟨hnd, ?_, fun b hb b2 hb2 => ?_⟩
    · simp only [List.nodup_cons, List.mem_singleton, List.not_mem_nil, not_false_eq_true, List.nodup_nil, and_true]
      exact Nat.ne_of_gt l2
    · have := hO b hb
      rcases List.mem_cons.mp hb2 with rfl | hb2
      · exact Nat.ne_of_lt (Nat.lt_trans this l2)
      · rw [List.mem_singleton.mp hb2]; exact Nat.ne_of_lt this
  have hoff' : OwnOff R (keys (O ++ [(x, instObj C dx), (dx, dictOf [] 0)])) := fun p hp b hb => by
    rw [hkey] at hb
    have hp' := l1 p (List.mem_append.mpr (.inr hp))
    rcases List.mem_append.mp hb with hb | hb
    · exact hoff p hp b hb
    · rcases List.mem_cons.mp hb with rfl | hb
      · exact Nat.ne_of_lt (Nat.lt_trans hp' l2)
      · rw [List.mem_singleton.mp hb]; exact Nat.ne_of_lt hp'
  have hdl : DenL (ad ++ [x]) R (.ref x :: vs ++ dv) (.o ob.length :: xs ++ xd) := DenL.append (.cons (.o hx) (hd.mono ad_left tsub_refl)) (hdx _ _)
  have S : ∀ (u2 : Nat) (_ : u2 ≤ uu + 16) (Q₁ : Value → Shared → Prop) (E₁ : Value → Shared → Prop), Sy ⟨cfgC w sc un room, w, room, mean, mg, mb, dp + 2, u2, gd, qual, sc, L', fI, cdv, [], envX cn cs L a ccd cl :: outer, (ktrTop dp uu gd cn cs L a ccd cl outer).under (Code.builtin "type.__call__" { pos := Value.ref C :: vs }), base, g,
      fun e s' => wpAny (MM w) (ktrTop (dp + 2) u2 gd qual sc L' fI cdv [] (envX cn cs L a ccd cl :: outer)) (leaving (envX qual sc L' fI cdv []) e) (fun _ s'' => Q₁ e s'') E₁ s', envX qual sc L' fI cdv [], none, fun _ => none⟩ := fun u2 hu2 _ _ =>
    ⟨⟨B', X', T', k3, (show dp + 2 + room < recursionLimit by lia -abstractProof), (show u2 + 8 * room < cLine by have := cLine_is; lia -abstractProof), (fun h => Nat.le_of_ble_eq_true h), fun _ => rfl, fun p hp => (k4 p hp).2, k3, rfl, rfl, rfl, fun _ _ _ _ h => h⟩, rfl, rfl, PassesOwn.leaving⟩
  refine (snd_S (S _ ?_ _ _) fu).2 hw (s := s) (T := ⟨h', _, _, ad ++ [x], O ++ [(x, instObj C dx), (dx, dictOf [] 0)], R⟩) ⟨F', fun p hp => N' p (hmem p hp), V0, hnd', hoff', (fun _ h => nomatch h), fun y v hy => ?_⟩ fun T2 fl xf l' ob' hw V2 G2 D2 => ?_
  · show _ ≤ uu + 16
    have hc := Nat.le_of_ble_eq_true (show Nat.ble (Code.builtin "type.__call__" { pos := Value.ref C :: vs }).cUnits 12 = true by kernel_rfl)
    show (uu + (Code.builtin "type.__call__" { pos := Value.ref C :: vs }).cUnits) + 3 ≤ uu + 16
    lia -abstractProof
  · have h9 := zip_lookup (ps := ps) (l := []) (m := []) hdl (fun y hy => List.all_eq_true.mp hst y hy) (fun _ _ h => nomatch h) y v (by rw [List.append_nil]; exact hy)
    rw [List.append_nil] at h9
    obtain ⟨u, hu, h9⟩ := h9
    refine ⟨u, (Rd.top ?_ rfl).mpr hu, h9⟩
    exact k5 y (List.of_mem_zip (List.mem_reverse.mp (lookup_mem hy))).1
  · have out : ∀ {v z}, (z = .d .none ∧ P (.o ob.length) ob') → Den T2.ad T2.R v z → LeaveK h₀ L m g (InitBack x fun r s' => match r with | .ok (.ret v) => Q v s' | .ok _ => False | .error e => E e s') v (T2.sh s) := fun hz Dz => by
      obtain ⟨rfl, hz⟩ := hz
      obtain rfl := den_none Dz
      have hst0 : stb1 un (.o ob.length) = true := (Bool.and_eq_true_iff.mp (List.all_cons .. ▸ hst)).1
      have hst1 : un = false ∨ ob.length ≠ 2 := by simpa [stb1] using hst0
      exact leaveK_ V2.fr V2.N fun F N => ⟨rfl, hret _ T2.h T2.tk _ F N ⟨_, ob', T2.ad, T2.O, T2.R, hz, rfl, V2.rows, V2.nd, V2.off, .o (G2.adr _ _ hx (.inr hst1)), ⟨fun k b e c => G2.adr k b (ad_left k b e) (.inr (c.resolve_left fun h => nomatch h)), G2.ext⟩⟩⟩
    cases D2 with
    | ret Dz => exact out hw Dz
    | next => exact out hw (.d .none)
end
section
open PySem.Calls PySem.Spec
theorem at_pcinit (w : World) : FnAt w 151 (sN ["self"]) (sBody (inAt 39 0)) (sScope (inAt 39 0)) :=
  ⟨⟨_, _, _, _, _, _, _, _, _, _, _, _, _, rfl, by kernel_rfl, fun vs h s => match vs, h with | [_], _ => BindsTo.of_eq rfl⟩, by kernel_rfl⟩
theorem newPC {w : World} : CallOk false w 3 (.ref 196) [] [] fun z o => z = .o 0 ∧ o = obP 0 [] := by
  refine enterN (room := 0) (fI := 151) (by kernel_rfl) (by kernel_rfl) (by kernel_rfl) (at_pcinit w).inn (xd := []) (fun _ _ => .nil) 60 rfl rfl ?_
  exact ⟨rfl, rfl, rfl⟩
end
section
open PySem.Calls PySem.Spec
theorem at_pcode (w : World) : FnAt w 207 (sN ["tree"]) (sBody (stAt 40)) (sScope (stAt 40)) :=
  ⟨⟨_, _, _, _, _, _, _, _, _, _, _, _, _, rfl, by kernel_rfl, fun vs h s => match vs, h with | [_], _ => BindsTo.of_eq rfl⟩, by kernel_rfl⟩
theorem pcode_ok {w : World} {p : Pat} (hp : PutV w p) (h1 : p.len < 900) (h2 : p.loops < 900) : CallOk false w (p.room + 4) (.ref 207) [.d p.dat] [] (fun z o => z = .t [.o 1, .d (.int p.loops)] ∧ o = obP p.loops ((p.ops 0 0 ++ [Op.met]).map Op.dat)) := by
  refine enterC (room := p.room + 3) (at_pcode w) 60 rfl rfl ?_
  refine CallOk.to (newPC) (by lia -abstractProof) ?_
  refine call_put (q := 0) (k := 0) hp (by lia -abstractProof) rfl rfl rfl (by lia -abstractProof) (by lia -abstractProof) ?_
  refine call_emit (q := p.len) (by lia -abstractProof) rfl rfl ?_ (by lia -abstractProof) ?_
  · ((try simp only [List.length_append, List.length_map, Pat.ops_length, List.length_cons, List.length_nil, List.length_set]) <;> lia -abstractProof)
  refine ⟨?_, ?_⟩
  · show XV.t [.o 1, .d (.int ((0 + p.loops : Nat) : Int))] = _
    rw [Nat.zero_add]
  · show obP ((0 + p.loops : Nat) : Int) (([] ++ (p.ops 0 0).map Op.dat) ++ [Op.met.dat]) = _
    rw [Nat.zero_add, List.nil_append, List.map_append]
    rfl
end
section
open PySem.Calls PySem.Spec
theorem ne_row {h₀ h : Heap} {L : Addr} {nw : List (Addr × Obj)} (N : News h₀ L h nw) {p q : Addr × Obj} (hp : p ∈ nw) (hq : q ∈ nw) (h1 : ∃ vs n, p.2 = tupO vs n) (h2 : NoTup q.2) : p.1 ≠ q.1 := ne_obj N hp hq (by obtain ⟨_, _, e⟩ := h1; rw [e]; exact Ne.symm (h2 _ _))
noncomputable def zOk (p : Nat → Bool) : XV → Bool
  | .t xs => xs.all (fldOk p)
  | x => fldOk p x
noncomputable def shZ (f : Nat → Nat) : XV → XV
  | .t xs => .t (xs.map (shX f))
  | x => shX f x
theorem den_shZ {ad ad' : List Addr} {R R' : List (Addr × Obj)} {f : Nat → Nat} {p : Nat → Bool} (ha : ∀ (k : Nat) (a : Addr), p k = true → ad[k]? = some a → ad'[f k]? = some a) (hs : TSub R R') {v : Value} {x : XV} (e : zOk p x = true) (h : Den ad R v x) : Den ad' R' v (shZ f x) := by
  cases h with
  | d h => exact .d (h.mono hs)
  | o h => exact .o (ha _ _ e h)
  | g v => exact .g v
  | t h1 h2 => exact .t (hs _ h1 ⟨_, _, rfl⟩) (denL_sh ha hs e h2)
theorem CallOk.onN {w : World} {un : Bool} {room : Nat} {g : Value} {xs : List XV} {ob : List MO} {σ : List Nat} {q : List MO × List MO} {f : Nat → Nat} {p : Nat → Bool} {P : XV → List MO → Prop} (h : CallOk un w room g (xs.map (shX f)) (q.1.map (shO f)) P) (hq : sel ob σ = some q)
    (hf : ∀ k, p k = true → σ[f k]? = some k) (hx : xs.all (fldOk p) = true) (ho : q.1.all (mofOk p) = true) (hP : ∀ z o, P z o → zOk (fun _ => true) z = true ∧ o.all (mofOk fun _ => true) = true) :
    CallOk false w room g xs ob fun z o => ∃ z' o', P z' o' ∧ z = shZ (· + ob.length) z' ∧ o = q.2 ++ o'.map (shO (· + ob.length)) := by
  constructor
  intro vs ad O R hr hn hoff hd
  obtain ⟨as', O1, Y, hp, h1, hi, h2⟩ := rows_sel hr hq
  have ha : ∀ (k : Nat) (a : Addr), p k = true → ad[k]? = some a → as'[f k]? = some a := fun k a hk e => (hi _ _ (hf k hk)).trans e
  have hpk := (hp.map (·.1)).nodup_iff.mp hn
  rw [List.map_append] at hpk
  obtain ⟨n1, n2, n3⟩ := List.nodup_append.mp hpk
  have hoY : OwnOff (Y ++ R) (keys O1) := fun p hp' b hb => (List.mem_append.mp hp').elim (fun hp' e => n3 b hb _ (mem_keys hp') e.symm) fun hp' => perm_off hp hoff p hp' b hb
  refine (h.ok vs as' O1 (Y ++ R) (rows_sh ha tsub_right ho h1) n1 hoY (denL_sh ha tsub_right hx hd)).conv (Nat.le_refl _) (fun p hp' => ?_) fun h₀ h' L r news N' p => ?_
  · exact (List.mem_append.mp hp').elim (fun h => mem_l (perm_l hp h)) fun h => (List.mem_append.mp h).elim (fun h => mem_l (perm_r hp h)) mem_r
  obtain ⟨z, o, ad', O', R', hz, rfl, hr', hn', ho', hd', hg⟩ := p
  obtain ⟨e, he, rfl⟩ := hg.ext
  obtain ⟨p1, p2⟩ := hP z o hz
  have hY := rows_cls h2
  have l0 : ad.length = ob.length := hr.length
  have hb : ∀ (k : Nat) (a : Addr), (fun _ => true) k = true → ad'[k]? = some a → (ad ++ ad')[k + ob.length]? = some a := fun k a _ e => by
    rw [List.getElem?_append_right (by lia -abstractProof), l0, Nat.add_sub_cancel]; exact e
  have ts : TSub (e ++ (Y ++ R)) (e ++ R) := tsub_mid hY
  refine ⟨(Y ++ O') ++ (e ++ R), fun p hp => ?_, shZ (· + ob.length) z, q.2 ++ o.map (shO (· + ob.length)), ad ++ ad', Y ++ O', e ++ R, ⟨z, o, hz, rfl, rfl⟩, rfl, rows_join (h2.mono ad_left tsub_right) (rows_sh hb ts p2 hr'), ?_, fun p hp' b hb' => ?_, den_shZ hb ts p1 hd', ⟨fun k a e _ => ad_left k a e, e, he, rfl⟩⟩
  · exact (List.mem_append.mp hp).elim (fun hp => (List.mem_append.mp hp).elim (fun hp => mem_r (mem_r (mem_l hp))) mem_l) fun hp => mem_r (mem_skip hp)
  · rw [keys_app]
    refine List.nodup_append.mpr ⟨n2, hn', fun b hb1 b2 hb2 eb => ?_⟩
    obtain ⟨p, hp, rfl⟩ := keys_mem hb1
    exact ho' p (mem_r (mem_l hp)) b2 hb2 eb
  · rw [keys_app] at hb'
    rcases List.mem_append.mp hb' with hb' | hb'
    · obtain ⟨q, hq, rfl⟩ := keys_mem hb'
      exact (List.mem_append.mp hp').elim (fun hp' => ne_row N' (mem_r (mem_l hp')) (mem_r (mem_r (mem_l hq))) (he _ hp') (hY q hq)) fun hp' => hoff p hp' _ (mem_keys (perm_r hp hq))
    · exact ho' p (mem_skip hp') b hb'
theorem CallOk.over {w : World} {room : Nat} {g : Value} {xs : List XV} {ob : List MO} {P : XV → List MO → Prop} (h : CallOk false w room g (xs.map (shX id)) [] P) (hx : xs.all (fldOk fun _ => false) = true) (hP : ∀ z o, P z o → zOk (fun _ => true) z = true ∧ o.all (mofOk fun _ => true) = true) :
    CallOk false w room g xs ob fun z o => ∃ z' o', P z' o' ∧ z = shZ (· + ob.length) z' ∧ o = ob ++ o'.map (shO (· + ob.length)) :=
  CallOk.onN (σ := []) (q := ([], ob)) (p := fun _ => false) h rfl (fun _ h => Bool.noConfusion h) hx rfl hP
noncomputable abbrev obM (m1 : MO) (lf : List (Str × XV)) (C : List Op) (T : List Nat) (left : Int) : List MO := [.inst 133 lf, m1, .lst (C.map Op.dat), .lst [], .inst 287 [(Str.ofString "steps", .o 2), (Str.ofString "text", .d (.str ⟨T.toArray⟩)), (Str.ofString "ignores_case", .d (.bool false)), (Str.ofString "is_multiline", .d (.bool false)), (Str.ofString "left", .d (.int left)), (Str.ofString "waiting", .o 5)], .lst []]
theorem run_in {w : World} {C : List Op} {T : List Nat} {n : Nat} {s : St} {r : Option (Nat × List Dat)} (hrun : RunV w C T n s r) (hn : n ≤ 50000) {left : Int} (hl : (n : Int) ≤ left) {m1 : MO} {lf : List (Str × XV)} :
    CallOk false w 5 (.ref 235) [.o 4, .d (.int s.pc), .d (.int s.i), .d (.tuple s.gs), .d (.tuple s.ls)] (obM m1 lf C T left) (fun z o => z = .d (resD r) ∧ o = [.inst 133 lf, m1, .gone, .lst [], .gone, .gone] ++ (obS C T (left - n) []).map (shO (· + 6))) :=
  (CallOk.onN (σ := [4, 2, 5]) (q := (_, _)) (f := fun k => if k = 4 then 0 else if k = 2 then 1 else 2) (p := fun k => k == 4 || (k == 2 || k == 5)) (hrun left [] (by simpa using hn) hl) rfl (fun k hk => by
    rcases Bool.or_eq_true_iff.mp hk with hk | hk
    · obtain rfl := beq_iff_eq.mp hk; rfl
    rcases Bool.or_eq_true_iff.mp hk with hk | hk
    · obtain rfl := beq_iff_eq.mp hk; rfl
    · obtain rfl := beq_iff_eq.mp hk; rfl) rfl rfl (by rintro z o ⟨rfl, rfl⟩; exact ⟨rfl, rfl⟩)).mono (Nat.le_refl _) (by rintro z o ⟨z', o', ⟨rfl, rfl⟩, rfl, rfl⟩; exact ⟨rfl, rfl⟩)
end
section
open PySem.Calls PySem.Spec
theorem at_sinit (w : World) : FnAt w 228 (sN ["self", "steps", "text", "ignores_case", "is_multiline", "limits"]) (sBody (inAt 42 0)) (sScope (inAt 42 0)) :=
  ⟨⟨_, _, _, _, _, _, _, _, _, _, _, _, _, rfl, by kernel_rfl, fun vs h s => len6 (p := fun vs => BindsTo s _ ⟨vs, []⟩ (List.zip _ vs)) h fun _ _ _ _ _ _ => BindsTo.of_eq rfl⟩, by kernel_rfl⟩
noncomputable abbrev limF (a b : XV) (c : Dat) (d : XV) : List (Str × XV) := [(Str.ofString "depth", a), (Str.ofString "frames", b), (Str.ofString "steps", .d c), (Str.ofString "text", d)]
theorem newS {w : World} {a b d : XV} {n : Int} {C : List Op} {T : List Nat} {m1 : MO} : CallOk false w 3 (.ref 287) [.o 2, .d (.str ⟨T.toArray⟩), .d (.bool false), .d (.bool false), .o 0] [.inst 133 (limF a b (.int n) d), m1, .lst (C.map Op.dat), .lst []]
    fun z o => z = .o 4 ∧ o = obM m1 (limF a b (.int n) d) C T n := by
  refine enterN (room := 0) (fI := 228) (by kernel_rfl) (by kernel_rfl) (by kernel_rfl) (at_sinit w).inn (xd := []) (fun _ _ => .nil) 60 rfl rfl ?_
  exact ⟨rfl, rfl, rfl⟩
theorem at_limits (w : World) : FnIn w 130 (sN ["self", "depth", "frames", "steps", "text"]) (sBody (inAt 19 0)) (sScope (inAt 19 0)) [.int 40 410, .int 200 411, .int 1000000000 414, .int 1000000 417] :=
  ⟨⟨_, _, _, _, _, _, _, _, _, _, _, _, _, rfl, by kernel_rfl, fun vs h s X => by
    obtain ⟨x, r, rfl⟩ := List.exists_cons_of_length_eq_add_one (n := 0) (by simpa using h)
    obtain rfl : r = [] := List.length_eq_zero_iff.mp (by simpa using h)
    exact BindsTo.of_defaults (T := 123) rfl (X _ _ rfl) rfl rfl rfl⟩, by kernel_rfl⟩
noncomputable abbrev limO : MO := .inst 133 (limF (.d (.int 40)) (.d (.int 200)) (.int 1000000000) (.d (.int 1000000)))
theorem newL0 {w : World} : CallOk false w 3 (.ref 133) [] [] fun z o => z = .o 0 ∧ o = [limO] := by
  refine enterN (room := 0) (fI := 130) (by kernel_rfl) (by kernel_rfl) (by kernel_rfl) (at_limits w) (xd := [.d (.int 40), .d (.int 200), .d (.int 1000000000), .d (.int 1000000)]) (fun _ _ => .cons (.d (.int _ _)) (.cons (.d (.int _ _)) (.cons (.d (.int _ _)) (.cons (.d (.int _ _)) .nil)))) 60 rfl rfl ?_
  exact ⟨rfl, rfl, rfl⟩
theorem newL {w : World} {ob : List MO} : CallOk false w 3 (.ref 133) [] ob fun z o => z = .o ob.length ∧ o = ob ++ [limO] := by
  refine (CallOk.over newL0 rfl (by rintro z o ⟨rfl, rfl⟩; exact ⟨rfl, rfl⟩)).mono (Nat.le_refl _) ?_
  rintro z o ⟨z', o', ⟨rfl, rfl⟩, rfl, rfl⟩
  exact ⟨congrArg XV.o (Nat.zero_add _), rfl⟩
end
section
open PySem.Calls PySem.Spec
theorem at_mcode (w : World) : FnAt w 298 (sN ["code", "text", "at", "count", "ignores_case", "is_multiline", "limits"]) (sBody (stAt 43)) (sScope (stAt 43)) :=
  ⟨⟨_, _, _, _, _, _, _, _, _, _, _, _, _, rfl, by kernel_rfl, fun vs h s => by
    obtain ⟨x, r, rfl⟩ := List.exists_cons_of_length_eq_add_one h
    exact len6 (p := fun r => BindsTo s _ ⟨x :: r, []⟩ (List.zip _ (x :: r))) (Nat.succ.inj h) fun _ _ _ _ _ _ => BindsTo.of_eq rfl⟩, by kernel_rfl⟩
noncomputable def resX : Option (Nat × List Dat) → XV → List MO → Prop
  | none, z, o => z = .d .none ∧ o.all okA = true
  | some (i, g), z, o => (z = .t [.d (.int i), .o 9] ∧ o[9]? = some (.lst g)) ∧ o.all okA = true
theorem resX_ok {r : Option (Nat × List Dat)} {z : XV} {o : List MO} (h : resX r z o) : zOk (fun _ => true) z = true ∧ o.all okA = true := by
  cases r with
  | none => obtain ⟨rfl, h⟩ := h; exact ⟨rfl, h⟩
  | some p => obtain ⟨⟨rfl, _⟩, h⟩ := h; exact ⟨rfl, h⟩
theorem mcodev {w : World} {C : List Op} {T : List Nat} {n i : Nat} {k g : Int} {l1 l2 gs : List Dat} {r : Option (Nat × List Dat)} (hk : mulT k (.tuple [.int 0, .int 0]) = some l1) (hg : mulT g .none = some gs) (h2 : mulT (g + 1) (.int 0) = some l2) (hl1 : l1.length + l2.length ≤ 10) (hrun : RunV w C T n ⟨0, i, gs, l1 ++ l2⟩ r) (hn : n ≤ 50000) {left : Int} (hl : (n : Int) ≤ left) (hr : ∀ j g, r = some (j, g) → g.length ≤ 1000) {a b e : XV} {m1 : MO} (hm : okA m1 = true) (hf : okA (.inst 133 (limF a b (.int left) e)) = true) :
    CallOk false w 9 (.ref 298) [.t [.o 2, .d (.int k)], .d (.str ⟨T.toArray⟩), .d (.int i), .d (.int g), .d (.bool false), .d (.bool false), .o 0] [.inst 133 (limF a b (.int left) e), m1, .lst (C.map Op.dat), .lst []] (resX r) := by
  refine enterC (room := 8) (at_mcode w) 60 rfl rfl ?_
  refine And.intro rfl ?_
  refine CallOk.to (newS) (by lia -abstractProof) ?_
  refine optE hg ?_
  refine optE hk ?_
  refine optE h2 ?_
  refine And.intro (by show l1.length + l2.length ≤ 1000; lia -abstractProof) ?_
  refine CallOk.to ((run_in hrun hn hl)) (by lia -abstractProof) ?_
  have hall : ∀ r : List MO, r.all okA = true → ([.inst 133 (limF a b (.int left) e), m1] ++ r).all okA = true := fun r h => by
    rw [List.all_append, h, Bool.and_true]
    exact Bool.and_eq_true_iff.mpr ⟨hf, Bool.and_eq_true_iff.mpr ⟨hm, rfl⟩⟩
  cases r with
  | none => exact ⟨rfl, hall _ rfl⟩
  | some p =>
    (first | refine itT rfl rfl ?_ | refine ixG _ rfl rfl (Nat.le_of_ble_eq_true rfl) ?_)
    (first | refine itT rfl rfl ?_ | refine ixG _ rfl rfl (Nat.le_of_ble_eq_true rfl) ?_)
    refine And.intro (hr p.1 p.2 rfl) ?_
    exact ⟨⟨rfl, rfl⟩, hall _ rfl⟩
end
section
open PySem.Calls PySem.Spec
theorem at_count (w : World) : FnAt w 312 (sN ["tree"]) (sBody (stAt 45)) (sScope (stAt 45)) :=
  ⟨⟨_, _, _, _, _, _, _, _, _, _, _, _, _, rfl, by kernel_rfl, fun vs h s => by
    obtain ⟨x, r, rfl⟩ := List.exists_cons_of_length_eq_add_one h
    obtain rfl := List.length_eq_zero_iff.mp (Nat.succ.inj h)
    exact BindsTo.of_eq rfl⟩, by kernel_rfl⟩
noncomputable abbrev cntL (f : Nat) : List (Str × XV) := [(Str.ofString "found", .d (.int f)), (Str.ofString "waiting", .o 0)]
structure CntI (c : Nat) (l : List (Str × XV)) (ob : List MO) (m : Nat) : Prop where
  ex : ∃ (f : Nat) (ds : List Dat) (c1 : Nat), l = cntL f ∧ ob = [.lst ds] ∧ GL ds c1 m ∧ f + c1 = c ∧ m ≤ 900
theorem cnt_next {c f : Nat} {ds2 : List Dat} {c2 z2 n : Nat} {l : List (Str × XV)} (hn : n ≤ 900) (e1 : l.lookup (Str.ofString "found") = some (.d (.int f))) (e2 : l.lookup (Str.ofString "waiting") = some (.o 0)) (g : GL ds2 c2 z2) (h : z2 < n) (e : f + c2 = c) :
    ∃ n' l', n' < n ∧ subL l' l ∧ CntI c l' [.lst ds2] n' := ⟨_, cntL f, h, ⟨e1, e2, trivial⟩, ⟨_, _, _, rfl, rfl, g, e, by lia -abstractProof⟩⟩
theorem cnt_all {c f : Nat} {ds es : List Dat} {ca za zb c2 z2 : Nat} {l : List (Str × XV)} (hn : za + zb ≤ 900) (h1 : GL ds ca za) (g : GL es c2 z2) (h : z2 < zb) (e : f + (ca + c2) = c) (e1 : l.lookup (Str.ofString "found") = some (.d (.int f))) (e2 : l.lookup (Str.ofString "waiting") = some (.o 0)) :
    ∃ n' l', n' < za + zb ∧ subL l' l ∧ CntI c l' [.lst (ds ++ es)] n' := cnt_next hn e1 e2 (g.app h1) (Nat.add_lt_add_left h _) e
theorem cnt3 {n m : Nat} (h : n + 1 ≤ m) (k : m ≤ 900 := by assumption) : n + 3 ≤ 100000 := by lia -abstractProof
theorem countv {w : World} {t : Dat} {c z : Nat} (hg : GT t c z) (hz : z ≤ 900) : CallOk false w 1 (.ref 312) [.d t] [] (fun r o => r = .d (.int c) ∧ o = [.lst []]) := by
  refine enterC (room := 0) (at_count w) 60 rfl rfl ?_
  refine And.intro rfl ?_
  refine whI (CntI c) z (cntL 0) ⟨rfl, rfl, trivial⟩ ⟨0, [t], c, rfl, rfl, gl1 hg, Nat.zero_add c, hz⟩ ?_
  rintro l1 ob1 m ⟨f, ds, c1, rfl, rfl, hgl, hf, hm⟩
  have hlen := hgl.len
  refine And.intro (by lia -abstractProof) ?_
  rcases List.eq_nil_or_concat ds with rfl | ⟨ds', d, rfl⟩
  · cases hgl
    exact ⟨by rw [← hf]; rfl, rfl⟩
  rw [List.concat_eq_append] at hgl hlen ⊢
  obtain ⟨ca, za, cb, zb, h1, h2, rfl, rfl⟩ := hgl.snoc
  rw [List.length_append, List.length_singleton] at hlen
  have hl1 := h1.len
  have hp := h2.pos
  have hb : decide ((0 : Int) < ((ds' ++ [d]).length : Nat)) = true := decide_eq_true (by rw [List.length_append, List.length_singleton]; lia -abstractProof)
  (first | refine ifT hb ?_ | (refine ifT rfl ?_; first | refine ifT hb ?_ | (refine ifT rfl ?_; refine ifT hb ?_)))
  refine ixH ds' d rfl (by lia -abstractProof) ?_
  have z0 : za < za + zb := Nat.lt_add_of_pos_right hp
  cases h2 with
  | none => exact cnt_next hm rfl rfl h1 z0 hf
  | int i => exact cnt_next hm rfl rfl h1 z0 hf
  | bool b => exact cnt_next hm rfl rfl h1 z0 hf
  | str x => exact cnt_next hm rfl rfl h1 z0 hf
  | grpN h =>
    refine And.intro (Nat.le_of_ble_eq_true rfl) ?_
    (first | refine itT rfl rfl ?_ | refine ixG _ rfl rfl (Nat.le_of_ble_eq_true rfl) ?_)
    (first | refine itT rfl rfl ?_ | refine ixG _ rfl rfl (Nat.le_of_ble_eq_true rfl) ?_)
    refine And.intro ⟨List.cons_ne_nil _ _, cnt3 hlen⟩ ?_
    exact cnt_all (f := f + 1) hm h1 (.cons (.str _) (.cons (.int _) (gl1 h))) (by lia -abstractProof) (by lia -abstractProof) rfl rfl
  | grp h =>
    refine And.intro (Nat.le_of_ble_eq_true rfl) ?_
    (first | refine itT rfl rfl ?_ | refine ixG _ rfl rfl (Nat.le_of_ble_eq_true rfl) ?_)
    (first | refine itT rfl rfl ?_ | refine ixG _ rfl rfl (Nat.le_of_ble_eq_true rfl) ?_)
    refine And.intro ⟨List.cons_ne_nil _ _, cnt3 hlen⟩ ?_
    exact cnt_all hm h1 (.cons (.str _) (.cons .none (gl1 h))) (by lia -abstractProof) (by lia -abstractProof) rfl rfl
  | two h =>
    refine And.intro (Nat.le_of_ble_eq_true rfl) ?_
    (first | refine itT rfl rfl ?_ | refine ixG _ rfl rfl (Nat.le_of_ble_eq_true rfl) ?_)
    refine And.intro ⟨List.cons_ne_nil _ _, cnt3 hlen⟩ ?_
    exact cnt_all hm h1 (.cons (.str _) h) (by lia -abstractProof) (by lia -abstractProof) rfl rfl
  | row h =>
    refine And.intro (Nat.le_of_ble_eq_true rfl) ?_
    (first | refine itT rfl rfl ?_ | refine ixG _ rfl rfl (Nat.le_of_ble_eq_true rfl) ?_)
    refine And.intro ⟨List.cons_ne_nil _ _, cnt3 hlen⟩ ?_
    exact cnt_all hm h1 h (by lia -abstractProof) hf rfl rfl
  | @oth es _ _ hne h3 h =>
    have hl := h.len
    refine And.intro (by lia -abstractProof) ?_
    have hb : ((es.length : Int) == 3) = false := by simpa using fun e => h3 (by lia -abstractProof)
    (first | refine ifF hb ?_ | (refine ifT rfl ?_; first | refine ifF hb ?_ | (refine ifT rfl ?_; refine ifF hb ?_)))
    refine And.intro ⟨hne, by lia -abstractProof⟩ ?_
    exact cnt_all hm h1 h (Nat.lt_succ_self _) hf rfl rfl
end
section
open PySem.Calls PySem.Spec
theorem at_match (w : World) : FnAt w 305 (sN ["tree", "text", "at", "flags", "limits"]) (sBody (stAt 44)) (sScope (stAt 44)) :=
  ⟨⟨_, _, _, _, _, _, _, _, _, _, _, _, _, rfl, by kernel_rfl, fun vs h s => len5 (p := fun vs => BindsTo s _ ⟨vs, []⟩ (List.zip _ vs)) h fun _ _ _ _ _ => BindsTo.of_eq rfl⟩, by kernel_rfl⟩
theorem no_i : (!(Builtin.Str.occurrences (Str.ofString "") (Str.ofString "i") 0 (Str.ofString "").length 1).isEmpty) = false := by decide +kernel
theorem no_m : (!(Builtin.Str.occurrences (Str.ofString "") (Str.ofString "m") 0 (Str.ofString "").length 1).isEmpty) = false := by decide +kernel
noncomputable def ls0 (k g : Nat) : List Dat := List.replicate k (.tuple [.int 0, .int 0]) ++ List.replicate (g + 1) (.int 0)
theorem mulT_rep {k : Nat} (h : k ≤ 3) (d : Dat) : mulT (k : Int) d = some (List.replicate k d) := by
  have h3 : k = 0 ∨ k = 1 ∨ k = 2 ∨ k = 3 := by lia -abstractProof
  rcases h3 with h | h | h | h <;> rw [h] <;> rfl
theorem matchv {w : World} {p : Pat} {T : List Nat} {n i : Nat} {r : Option (Nat × List Dat)} (hp : PutV w p) (h1 : p.len < 900) (h2 : p.loops ≤ 2) (h3 : p.grps ≤ 2) {z : Nat} (hg : GT p.dat p.grps z) (hz : z ≤ 900) (hrun : RunV w (p.ops 0 0 ++ [Op.met]) T n ⟨0, i, List.replicate p.grps .none, ls0 p.loops p.grps⟩ r) (hn : n ≤ 50000) {left : Int} (hl : (n : Int) ≤ left) (hr : ∀ j g, r = some (j, g) → g.length ≤ 1000) {a b e : XV} (hf : okA (.inst 133 (limF a b (.int left) e)) = true) {rm : Nat} (hm1 : p.room + 5 ≤ rm) (hm2 : 10 ≤ rm) :
    CallOk false w rm (.ref 305) [.d p.dat, .d (.str ⟨T.toArray⟩), .d (.int i), .d (.str (Str.ofString "")), .o 0] [.inst 133 (limF a b (.int left) e)] (resX r) := by
  obtain ⟨rm, rfl⟩ : ∃ k, rm = k + 1 := ⟨rm - 1, by lia -abstractProof⟩
  refine enterC (at_match w) 60 rfl rfl ?_
  refine ((pcode_ok hp h1 (by lia -abstractProof)).over rfl (by rintro z o ⟨rfl, rfl⟩; exact ⟨rfl, rfl⟩)).mono (by lia -abstractProof) ?_
  rintro z o ⟨z', o', ⟨rfl, rfl⟩, rfl, rfl⟩
  refine ((countv hg hz).over rfl (by rintro z o ⟨rfl, rfl⟩; exact ⟨rfl, rfl⟩)).mono (by lia -abstractProof) ?_
  rintro z o ⟨z', o', ⟨rfl, rfl⟩, rfl, rfl⟩
  show CallOk false w rm (.ref 298) [.t [.o 2, .d (.int p.loops)], _, _, _, .d (.bool _), .d (.bool _), _] _ _
  rw [no_i, no_m]
  exact (mcodev (i := i) (m1 := .inst 196 _) (mulT_rep (by lia -abstractProof) _) (mulT_rep (by lia -abstractProof) _) (mulT_rep (k := p.grps + 1) (by lia -abstractProof) _) (by rw [List.length_replicate, List.length_replicate]; lia -abstractProof) hrun hn hl hr rfl hf).mono (by lia -abstractProof) fun _ _ h => h
end
section
open PySem.Calls PySem.Spec
noncomputable def gs0 (t : Pat) : List Dat := List.replicate t.grps .none
theorem good0 (T : List Nat) (t : Pat) : Good T t.grps (gs0 t) := ⟨List.length_replicate, fun _ h => .inl (List.eq_of_mem_replicate h)⟩
theorem match_ok {w : World} {t : Pat} (hf : Fit2 t) {T : List Nat} (hT3 : T.length ≤ 3) (hT : ∀ k ∈ T, k = 97 ∨ k = 98 ∨ k = 99) {i : Nat} (hi : i ≤ T.length) {a b e : XV} (hl : okA (.inst 133 (limF a b (.int 1000000000) e)) = true) :
    CallOk false w 70 (.ref 305) [.d t.dat, .d (.str ⟨T.toArray⟩), .d (.int i), .d (.str (Str.ofString "")), .o 0] [.inst 133 (limF a b (.int 1000000000) e)] (resX (t.ev T (i, gs0 t)).head?) := by
  obtain ⟨z, hz, hg⟩ := pat_gt t
  have hsz : (ls0 t.loops t.grps).length = t.loops + t.grps + 1 := by unfold ls0; rw [List.length_append, List.length_replicate, List.length_replicate]; rfl
  have hlo := hf.loops
  have hgr := hf.grps
  have hcst := hf.cst
  have hlen := hf.len
  have hgd := good0 T t
  obtain ⟨n, hn, ho⟩ := whole hT3 (G := t.grps) (Lq := t.loops + t.grps + 1) t hf.wf i hi (gs0 t) (ls0 t.loops t.grps) hgd hsz
  have hs0 : Sized T t.grps (t.loops + t.grps + 1) ⟨0, i, gs0 t, ls0 t.loops t.grps⟩ := ⟨hgd.1, hsz, hi⟩
  have hrun := run_ok (w := w) (by rw [List.length_append, Pat.ops_length, List.length_singleton]; lia -abstractProof) ho hs0 (steps_all (w := w) hT (by lia -abstractProof) (by lia -abstractProof))
  refine matchv (put_ok t) (by lia -abstractProof) hlo hgr hg (Nat.le_trans hz hf.gsz) hrun (by lia -abstractProof) (by lia -abstractProof) (fun j g e => ?_) hl (by have := hf.room; lia -abstractProof) (by lia -abstractProof)
  have := (out_sized (G := t.grps) (Lq := t.loops + t.grps + 1) ho (fun s hs => by rw [List.mem_singleton.mp hs]; exact hs0) j g e).1
  lia -abstractProof
theorem sel_last {ob : List MO} {m : MO} : sel (ob ++ [m]) [ob.length] = some ([m], ob ++ [.gone]) := by
  show ((ob ++ [m])[ob.length]?).bind _ = _
  rw [List.getElem?_append_right (Nat.le_refl _), Nat.sub_self]
  show some ([m], (ob ++ [m]).set ob.length .gone) = _
  rw [List.set_append_right _ _ (Nat.le_refl _), Nat.sub_self]
  rfl
noncomputable def resZ : Option (Nat × List Dat) → Nat → XV
  | none, _ => .d .none
  | some (i, _), j => .t [.d (.int i), .o j]
noncomputable def resG : Option (Nat × List Dat) → List Dat
  | none => []
  | some (_, g) => g
theorem match_any {w : World} {t : Pat} (hf : Fit2 t) {T : List Nat} (hT3 : T.length ≤ 3) (hT : ∀ k ∈ T, k = 97 ∨ k = 98 ∨ k = 99) {i : Nat} (hi : i ≤ T.length) {ob : List MO} :
    CallOk false w 70 (.ref 305) [.d t.dat, .d (.str ⟨T.toArray⟩), .d (.int i), .d (.str (Str.ofString "")), .o ob.length] (ob ++ [limO]) (fun z o => ∃ j r, z = resZ (t.ev T (i, gs0 t)).head? j ∧ o = ob ++ [.gone] ++ r ∧ ((t.ev T (i, gs0 t)).head? = none ∨ o[j]? = some (.lst (resG (t.ev T (i, gs0 t)).head?)))) := by
  refine (CallOk.onN (σ := [ob.length]) (q := ([limO], ob ++ [.gone])) (f := fun _ => 0) (p := fun k => k == ob.length) (match_ok hf hT3 hT hi rfl) sel_last (fun k hk => by rw [beq_iff_eq.mp hk]; rfl) (by simp [fldOk]) rfl (fun _ _ h => resX_ok h)).mono (Nat.le_refl _) ?_
  rintro z o ⟨z', o', hz, rfl, rfl⟩
  cases hr : (t.ev T (i, gs0 t)).head? with
  | none =>
    rw [hr] at hz
    obtain ⟨rfl, _⟩ := hz
    exact ⟨0, _, rfl, rfl, .inl rfl⟩
  | some q =>
    rw [hr] at hz
    obtain ⟨⟨rfl, h9⟩, _⟩ := hz
    refine ⟨9 + (ob ++ [limO]).length, _, rfl, rfl, .inr ?_⟩
    have hlen : (ob ++ [MO.gone]).length = (ob ++ [limO]).length := by simp
    rw [List.getElem?_append_right (by rw [hlen]; lia -abstractProof), hlen, Nat.add_sub_cancel, List.getElem?_map, h9]
    rfl
end
section
open PySem.Calls PySem.Spec
theorem at_term (w : World) : FnAt w 319 (sN ["deal", "deep"]) (sBody (stAt 47)) (sScope (stAt 47)) :=
  ⟨⟨_, _, _, _, _, _, _, _, _, _, _, _, _, rfl, by kernel_rfl, fun vs h s => len2 (p := fun vs => BindsTo s _ ⟨vs, []⟩ (List.zip _ vs)) h fun _ _ => BindsTo.of_eq rfl⟩, by kernel_rfl⟩
noncomputable abbrev TermP (R : Pat → Prop) (c : Int) (z : XV) (o : List MO) : Prop := ∃ p : Pat, z = .d p.dat ∧ R p ∧ o = [.lst [.int (c.fdiv 6)]]
theorem termp_ok {R : Pat → Prop} {c : Int} {z : XV} {o : List MO} (h : TermP R c z o) : xvOk 1 z = true ∧ o.all (moOk 1) = true ∧ o.length = 1 := by
  obtain ⟨p, rfl, _, rfl⟩ := h; exact ⟨rfl, rfl, rfl⟩
theorem term_sign {R : Pat → Prop} {c k : Int} (hR : ∀ p, Term0 p → R p) (h0 : 0 ≤ k) (h4 : k < 4) (hk : k < 2) : TermP R c (.d (.tuple [.str (Str.ofString "char"), .int (97 + k)])) [.lst [.int (c.fdiv 6)]] := by
  have h : k = 0 ∨ k = 1 := by lia -abstractProof
  rcases h with rfl | rfl
  · exact ⟨.chr 97, rfl, hR _ .a, rfl⟩
  · exact ⟨.chr 98, rfl, hR _ .b, rfl⟩
theorem term0v {w : World} {c : Int} (hc : 0 ≤ c) : CallOk false w 1 (.ref 319) [.o 0, .d (.int 0)] [.lst [.int c]] (TermP Term0 c) := by
  refine CallOk.trim ?_ fun _ _ h => termp_ok h
  refine enterC (room := 0) (at_term w) 60 rfl rfl ?_
  have e4 : c.fmod 4 = c % 4 := Int.fmod_eq_emod_of_nonneg c (by decide)
  refine ixG 0 rfl rfl (Nat.le_of_ble_eq_true rfl) ?_
  refine ixG 0 rfl rfl (Nat.le_of_ble_eq_true rfl) ?_
  refine And.intro ⟨Int.le_refl _, Int.zero_lt_one, Nat.le_of_ble_eq_true rfl⟩ ?_
  by_cases h2 : c.fmod 4 < 2
  · (first | refine ifT (decide_eq_true h2) ?_ | (refine ifT rfl ?_; first | refine ifT (decide_eq_true h2) ?_ | (refine ifT rfl ?_; refine ifT (decide_eq_true h2) ?_)))
    exact term_sign (fun _ h => h) (by lia -abstractProof) (by lia -abstractProof) h2
  · (first | refine ifF (decide_eq_false h2) ?_ | (refine ifT rfl ?_; first | refine ifF (decide_eq_false h2) ?_ | (refine ifT rfl ?_; refine ifF (decide_eq_false h2) ?_)))
    (first | refine ifT (decide_eq_true (show c.fmod 4 < 4 by lia -abstractProof)) ?_ | (refine ifT rfl ?_; first | refine ifT (decide_eq_true (show c.fmod 4 < 4 by lia -abstractProof)) ?_ | (refine ifT rfl ?_; refine ifT (decide_eq_true (show c.fmod 4 < 4 by lia -abstractProof)) ?_)))
    have h : c.fmod 4 = 2 ∨ c.fmod 4 = 3 := by lia -abstractProof
    rcases h with h | h
    · exact ⟨0, _, by rw [h]; rfl, rfl, Nat.le_of_ble_eq_true rfl, .any, rfl, .any, rfl⟩
    · exact ⟨1, _, by rw [h]; rfl, rfl, Nat.le_of_ble_eq_true rfl, .cls, rfl, .cls, rfl⟩
theorem term1v {w : World} {c : Int} (hc : 0 ≤ c) : CallOk false w 2 (.ref 319) [.o 0, .d (.int 1)] [.lst [.int c]] (fun z o => ∃ (p : Pat) (c' : Int), z = .d p.dat ∧ Term1 p ∧ o = [.lst [.int c']]) := by
  refine CallOk.trim ?_ fun z o h => by obtain ⟨p, c', rfl, _, rfl⟩ := h; exact ⟨rfl, rfl, rfl⟩
  refine enterC (room := 1) (at_term w) 60 rfl rfl ?_
  have e6 : c.fmod 6 = c % 6 := Int.fmod_eq_emod_of_nonneg c (by decide)
  have ed : c.fdiv 6 = c / 6 := Int.fdiv_eq_ediv_of_nonneg c (by decide)
  refine ixG 0 rfl rfl (Nat.le_of_ble_eq_true rfl) ?_
  refine ixG 0 rfl rfl (Nat.le_of_ble_eq_true rfl) ?_
  refine And.intro ⟨Int.le_refl _, Int.zero_lt_one, Nat.le_of_ble_eq_true rfl⟩ ?_
  by_cases h2 : c.fmod 6 < 2
  · (first | refine ifT (decide_eq_true h2) ?_ | (refine ifT rfl ?_; first | refine ifT (decide_eq_true h2) ?_ | (refine ifT rfl ?_; refine ifT (decide_eq_true h2) ?_)))
    obtain ⟨p, h⟩ := term_sign (R := Term1) (c := c) (fun _ h => .one h) (by lia -abstractProof) (by lia -abstractProof) h2
    exact ⟨p, _, h⟩
  (first | refine ifF (decide_eq_false h2) ?_ | (refine ifT rfl ?_; first | refine ifF (decide_eq_false h2) ?_ | (refine ifT rfl ?_; refine ifF (decide_eq_false h2) ?_)))
  by_cases h4 : c.fmod 6 < 4
  · (first | refine ifT (decide_eq_true h4) ?_ | (refine ifT rfl ?_; first | refine ifT (decide_eq_true h4) ?_ | (refine ifT rfl ?_; refine ifT (decide_eq_true h4) ?_)))
    have h : c.fmod 6 = 2 ∨ c.fmod 6 = 3 := by lia -abstractProof
    rcases h with h | h
    · exact ⟨0, _, by rw [h]; rfl, rfl, Nat.le_of_ble_eq_true rfl, .any, _, rfl, .one .any, rfl⟩
    · exact ⟨1, _, by rw [h]; rfl, rfl, Nat.le_of_ble_eq_true rfl, .cls, _, rfl, .one .cls, rfl⟩
  (first | refine ifF (decide_eq_false h4) ?_ | (refine ifT rfl ?_; first | refine ifF (decide_eq_false h4) ?_ | (refine ifT rfl ?_; refine ifF (decide_eq_false h4) ?_)))
  refine (term0v (c := c.fdiv 6) (by lia -abstractProof)).mono (Nat.le_refl _) ?_
  rintro _ _ ⟨p, rfl, hp, rfl⟩
  refine (term0v (c := (c.fdiv 6).fdiv 6) (by have := Int.fdiv_eq_ediv_of_nonneg (c.fdiv 6) (b := 6) (by decide); lia -abstractProof)).mono (Nat.le_refl _) ?_
  rintro _ _ ⟨q, rfl, hq, rfl⟩
  have h : c.fmod 6 = 4 ∨ c.fmod 6 = 5 := by lia -abstractProof
  rcases h with h | h
  · (first | refine ifT (beq_iff_eq.mpr h) ?_ | (refine ifT rfl ?_; first | refine ifT (beq_iff_eq.mpr h) ?_ | (refine ifT rfl ?_; refine ifT (beq_iff_eq.mpr h) ?_)))
    exact ⟨.seq2 p q, _, rfl, .row hp hq, rfl⟩
  · (first | refine ifF (beq_eq_false_iff_ne.mpr (show c.fmod 6 ≠ 4 by lia -abstractProof)) ?_ | (refine ifT rfl ?_; first | refine ifF (beq_eq_false_iff_ne.mpr (show c.fmod 6 ≠ 4 by lia -abstractProof)) ?_ | (refine ifT rfl ?_; refine ifF (beq_eq_false_iff_ne.mpr (show c.fmod 6 ≠ 4 by lia -abstractProof)) ?_)))
    exact ⟨.grp (.alt2 p q), _, rfl, .alt hp hq, rfl⟩
end
section
open PySem.Calls PySem.Spec
theorem at_whole (w : World) : FnAt w 326 (sN ["part", "text"]) (sBody (stAt 48)) (sScope (stAt 48)) :=
  ⟨⟨_, _, _, _, _, _, _, _, _, _, _, _, _, rfl, by kernel_rfl, fun vs h s => len2 (p := fun vs => BindsTo s _ ⟨vs, []⟩ (List.zip _ vs)) h fun _ _ => BindsTo.of_eq rfl⟩, by kernel_rfl⟩
theorem whole_ok {w : World} {t : Pat} {n : Nat} (hn : n ≤ 1) (hp : Part t n) {M : List Nat → Prop} (hr : Reg t M) {T : List Nat} (hT3 : T.length ≤ 3) (hT : ∀ k ∈ T, k = 97 ∨ k = 98 ∨ k = 99) {ob : List MO} :
    CallOk false w 71 (.ref 326) [.d t.dat, .d (.str ⟨T.toArray⟩)] ob (fun z o => (∃ b : Bool, z = .d (.bool b) ∧ (b = true ↔ M T)) ∧ ∃ r, o = ob ++ r) := by
  refine enterC (room := 70) (at_whole w) 60 rfl rfl ?_
  refine CallOk.to (newL) (by lia -abstractProof) ?_
  refine CallOk.to2 ((match_any (fit_whole hn hp) hT3 hT (i := 0) (Nat.zero_le _))) (by lia -abstractProof) ?_
  rintro j r _
  have hw := whole_ev hr (W := T) (g := gs0 (.seq2 t .fin))
  cases hh : ((Pat.seq2 t .fin).ev T (0, gs0 (.seq2 t .fin))).head? with
  | none =>
    exact ⟨⟨false, rfl, ⟨(fun h => nomatch h), fun h => (hw.mp hh h).elim⟩⟩, _, List.append_assoc _ _ _⟩
  | some q =>
    exact ⟨⟨true, rfl, ⟨(fun _ => Classical.byContradiction fun h => nomatch hh.symm.trans (hw.mpr h)), fun _ => rfl⟩⟩, _, List.append_assoc _ _ _⟩
end
section
open PySem.Calls PySem.Spec
theorem get_more {O : List MO} {j : Nat} {m : MO} (h : O[j]? = some m) {r : List MO} : (O ++ r)[j]? = some m := by
  rw [List.getElem?_append_left (List.getElem?_eq_some_iff.mp h).1]; exact h
theorem get_last {O : List MO} {m : MO} : (O ++ [m])[O.length]? = some m := by
  rw [List.getElem?_append_right (Nat.le_refl _), Nat.sub_self]; rfl
theorem match_is {w : World} {t : Pat} (hf : Fit2 t) {T : List Nat} (hT3 : T.length ≤ 3) (hT : ∀ k ∈ T, k = 97 ∨ k = 98 ∨ k = 99) {i : Nat} (hi : i ≤ T.length) {r : Option Pl} (hr : (t.ev T (i, gs0 t)).head? = r) {ob : List MO} :
    CallOk false w 80 (.ref 305) [.d t.dat, .d (.str ⟨T.toArray⟩), .d (.int i), .d (.str (Str.ofString "")), .o ob.length] (ob ++ [limO]) (fun z o => ∃ j R, z = resZ r j ∧ o = ob ++ R ∧ ∀ q, r = some q → o[j]? = some (.lst q.2)) := by
  subst hr
  refine CallOk.to2 ((match_any hf hT3 hT hi)) (by lia -abstractProof) ?_
  rintro j R h
  refine ⟨j, _, rfl, List.append_assoc _ _ _, fun q hq => ?_⟩
  rw [hq] at h
  exact h.resolve_left (fun h => nomatch h)
theorem cellE {l : List (Str × XV)} {x : Str} {ob : List MO} {k : Nat} {y : XV} {K : Nat → XV → Prop} (e : l.lookup x = some (.o k)) (h : ob[k]? = some (.cell (some y))) (hK : K k y) : optX (l.lookup x) fun v => optX (asO v) fun k => optX (cellA ob[k]?) fun y => K k y :=
  optE e (optE rfl (optE (by rw [h]; rfl) hK))
noncomputable abbrev obW (c : Nat) (i : Option XV) (px : Pat) (T : List Nat) (R : List MO) : List MO := .cell (some (.o c)) :: .cell i :: .cell (some (.d px.dat)) :: .cell (some (.d (.str ⟨T.toArray⟩))) :: R
structure Kp (px py pz : Pat) (l : List (Str × XV)) : Prop where
  at_ : l.lookup (Str.ofString "at") = some (.o 1)
  x : l.lookup (Str.ofString "x") = some (.o 2)
  text : l.lookup (Str.ofString "text") = some (.o 3)
  y : l.lookup (Str.ofString "y") = some (.d py.dat)
  z : l.lookup (Str.ofString "z") = some (.d pz.dat)
  plain : l.lookup (Str.ofString "plain") = some (.d (Pat.seq3 px py pz).dat)
  inner : l.lookup (Str.ofString "inner") = some (.d (Pat.seq3 px (.grpN 1 py) pz).dat)
  outer : l.lookup (Str.ofString "outer") = some (.d (Pat.grpN 1 (.seq3 px (.grpN 2 py) pz)).dat)
theorem cellsL_at {sc : Scope} {l : List (Str × XV)} {x : Str} {v : Option XV} (h : (sc.names.lookup x == some .free) = true) (e : l.lookup x = v) : (cellsL sc l).lookup x = v := (look_filter fun _ => h).trans e
noncomputable def isC (l : List (Str × XV)) : List Str → Prop
  | [] => True
  | x :: r => (∃ k, l.lookup x = some (.o k)) ∧ isC l r
theorem isC_mem {l : List (Str × XV)} {fs : List Str} : ∀ {x : Str}, isC l fs → x ∈ fs → ((l.lookup x).bind asO).isSome = true := by
  induction fs with
  | nil => intro x _ h; cases h
  | cons y fs ih =>
    rintro x ⟨⟨k, hk⟩, h⟩ hx
    rcases List.mem_cons.mp hx with rfl | hx
    · rw [hk]; rfl
    · exact ih h hx
theorem compOk_of {c : Cfg} {l : List (Str × XV)} {q : CP} (fs : List Str) (h1 : (!c.un && scPlain q.sc && notSet q.it && q.sc.names.all fun p => p.2 != .free || (c.names.lookup p.1 == some .cell && fs.contains p.1)) = true) (h : isC l fs) : compOk c l q = true := by
  obtain ⟨h2, h3⟩ := Bool.and_eq_true_iff.mp h1
  refine Bool.and_eq_true_iff.mpr ⟨h2, List.all_eq_true.mpr fun p hp => ?_⟩
  rcases Bool.or_eq_true_iff.mp (List.all_eq_true.mp h3 p hp) with h4 | h4
  · rw [h4]; rfl
  · obtain ⟨h5, h6⟩ := Bool.and_eq_true_iff.mp h4
    rw [h5, isC_mem h (List.contains_iff_mem.mp h6)]
    exact Bool.or_true _
noncomputable abbrev turnB : List Stmt := sFor ((sBody (stAt 49)).getD 7 (.Pass ⟨0, 0, 0, 0⟩))
noncomputable abbrev turnS (k : Nat) : Stmt := turnB.getD k (.Pass ⟨0, 0, 0, 0⟩)
section
variable {w : World} {px py pz : Pat} {T : List Nat} {i c n : Nat} (hT3 : T.length ≤ 3) (hT : ∀ k ∈ T, k = 97 ∨ k = 98 ∨ k = 99) (hi : i ≤ T.length) (hn : n ≤ 1) (hx : Part px 0) (hy : Part py n) (hz : Part pz 0)
include hT3 hT hi hn hx hy hz
theorem found_ok {l : List (Str × XV)} {R : List MO} {P : XF → List (Str × XV) → List MO → Prop} (hk : Kp px py pz l) {r1 r2 r3 r4 : Option Pl} (e1 : ((Pat.seq3 px (.grpN 1 py) pz).ev T (i, gs0 (Pat.seq3 px (.grpN 1 py) pz))).head? = r1) (e2 : ((Pat.grpN 1 (.seq3 px py pz)).ev T (i, gs0 (Pat.grpN 1 (.seq3 px py pz)))).head? = r2)
    (e3 : ((Pat.grpN 1 (.seq3 px (.grpN 2 py) pz)).ev T (i, gs0 (Pat.grpN 1 (.seq3 px (.grpN 2 py) pz)))).head? = r3) (e4 : ((Pat.grp (.seq3 px py pz)).ev T (i, gs0 (Pat.grp (.seq3 px py pz)))).head? = r4)
    (h : ∀ j1 j2 j3 j4 X, let O := obW c (some (.d (.int i))) px T (R ++ X); (∀ q, r1 = some q → O[j1]? = some (.lst q.2)) → (∀ q, r2 = some q → O[j2]? = some (.lst q.2)) → (∀ q, r3 = some q → O[j3]? = some (.lst q.2)) → (∀ q, r4 = some q → O[j4]? = some (.lst q.2)) →
      P .next ((Str.ofString "found", .o O.length) :: l) (O ++ [mkL [resZ r1 j1, resZ r2 j2, resZ r3 j3, resZ r4 j4]])) :
    wS (cfgC w (sScope (stAt 49)) false 80) 48 (turnS 1) l (obW c (some (.d (.int i))) px T R) P := by
  have ct := fun sc h => cellsL_at (sc := sc) h hk.text
  have ca := fun sc h => cellsL_at (sc := sc) h hk.at_
  refine ifT (Bool.and_eq_true_iff.mpr ⟨compOk_of [Str.ofString "at", Str.ofString "text"] rfl ⟨⟨_, hk.at_⟩, ⟨_, hk.text⟩, trivial⟩, rfl⟩) ?_
  refine optE hk.inner ?_
  refine optE hk.plain ?_
  refine optE hk.outer ?_
  refine optE hk.plain ?_
  refine And.intro (Nat.le_of_ble_eq_true rfl) ?_
  refine cellE (ct _ rfl) rfl ?_
  refine cellE (ca _ rfl) rfl ?_
  refine CallOk.to (newL) (by lia -abstractProof) ?_
  refine CallOk.to2 ((match_is (fit_inner hn hx hy hz) hT3 hT hi e1)) (Nat.le_refl _) ?_
  rintro j1 X1 h1
  refine cellE (ct _ rfl) rfl ?_
  refine cellE (ca _ rfl) rfl ?_
  refine CallOk.to (newL) (by lia -abstractProof) ?_
  refine CallOk.to2 ((match_is (fit_grpN hn hx hy hz) hT3 hT hi e2)) (Nat.le_refl _) ?_
  rintro j2 X2 h2
  refine cellE (ct _ rfl) rfl ?_
  refine cellE (ca _ rfl) rfl ?_
  refine CallOk.to (newL) (by lia -abstractProof) ?_
  refine CallOk.to2 ((match_is (fit_outer hn hx hy hz) hT3 hT hi e3)) (Nat.le_refl _) ?_
  rintro j3 X3 h3
  refine cellE (ct _ rfl) rfl ?_
  refine cellE (ca _ rfl) rfl ?_
  refine CallOk.to (newL) (by lia -abstractProof) ?_
  refine CallOk.to2 ((match_is (fit_grp (fit_plain hn hx hy hz) (by have := hx.room; have := hy.room; have := hz.room; show px.room + py.room + pz.room + 1 ≤ 50; lia -abstractProof) (by have := hx.gsz; have := hy.gsz; have := hz.gsz; show px.gsz + py.gsz + pz.gsz + 8 ≤ 800; lia -abstractProof)) hT3 hT hi e4)) (Nat.le_refl _) ?_
  rintro j4 X4 h4
  have hO : obW c (some (.d (.int i))) px T R ++ X1 ++ X2 ++ X3 ++ X4 = obW c (some (.d (.int i))) px T (R ++ (X1 ++ X2 ++ X3 ++ X4)) := by simp only [List.append_assoc, List.cons_append]
  have hh := h j1 j2 j3 j4 (X1 ++ X2 ++ X3 ++ X4)
  rw [← hO] at hh
  exact hh (fun q hq => get_more (get_more (get_more (h1 q hq)))) (fun q hq => get_more (get_more (h2 q hq))) (fun q hq => get_more (h3 q hq)) h4
end
end
section
open PySem.Calls PySem.Spec
theorem lsx_more {O : List MO} {xs : List XV} {k : Nat} (h : O[k]? = some (.lsx xs)) : lsxO (.o k) O = some xs := by
  show lsxA O[k]? = _
  rw [h]; rfl
theorem lst_of {O : List MO} {ds : List Dat} {k : Nat} (h : O[k]? = some (.lst ds)) : lstA O[k]? = some ds := by rw [h]; rfl
theorem dat_of {O : List MO} {ds : List Dat} {k : Nat} (h : O[k]? = some (.lst ds)) : datX O (.o k) = some (.list ds) := by
  show Option.map Dat.list (lstA O[k]?) = _
  rw [h]; rfl
theorem dat_res {O : List MO} {i j : Nat} {g : List Dat} (h : O[j]? = some (.lst g)) : datX O (.t [.d (.int i), .o j]) = some (.tuple [.int i, .list g]) := by
  show Option.map Dat.tuple (Option.bind (some (Dat.int i)) fun d => Option.map (d :: ·) (Option.bind (Option.map Dat.list (lstA O[j]?)) fun d => Option.map (d :: ·) (some []))) = _
  rw [h]
  rfl
theorem itL {O : List MO} {k j : Nat} {xs : List XV} {v : XV} {P : XV → Prop} {B : Prop} (h : O[k]? = some (.lsx xs)) (e : xs[j]? = some v) (hz : xs.length ≤ 1000) (hP : P v) : cond (lsxO (.o k) O).isSome (optX (lsxO (.o k) O) fun xs => atX xs (j : Int) P) B := by
  rw [lsx_more h]
  exact ⟨j, v, rfl, e, hz, hP⟩
theorem itD {O : List MO} {k : Nat} {ds : List Dat} {A : Prop} {K : Nat → List Dat → Prop} (h : O[k]? = some (.lst ds)) (hK : K k ds) : cond (lsxO (.o k) O).isSome A (optX (asO (.o k)) fun n => optX (lstA O[n]?) (K n)) := by
  have e : lsxO (.o k) O = none := by show lsxA O[k]? = _; rw [h]; rfl
  rw [e]
  show optX (lstA O[k]?) (K k)
  exact optE (lst_of h) hK
theorem ne_no {a : Dat} {P : Bool → Prop} (h : P false) : ∀ r : Bool, (r = true ↔ a ≠ a) → P r := fun r hr => by
  cases r with
  | true => exact (hr.mp rfl rfl).elim
  | false => exact h
section
variable {w : World} {px py pz : Pat} {T : List Nat} {i c n : Nat} (hT3 : T.length ≤ 3) (hT : ∀ k ∈ T, k = 97 ∨ k = 98 ∨ k = 99) (hi : i ≤ T.length) (hn : n ≤ 1) (hx : Part px 0) (hy : Part py n) (hz : Part pz 0)
theorem if_none {l : List (Str × XV)} {R : List MO} {P : XF → List (Str × XV) → List MO → Prop} {k : Nat} (hd : l.lookup (Str.ofString "due") = some (.d .none)) (hf : l.lookup (Str.ofString "found") = some (.o k))
    (h0 : (obW c (some (.d (.int i))) px T R)[k]? = some (.lst [.none, .none, .none, .none]))
    (h : ∀ X, P .next l (obW c (some (.d (.int i))) px T X)) : wS (cfgC w (sScope (stAt 49)) false 80) 47 (turnS 2) l (obW c (some (.d (.int i))) px T R) P := by
  refine optE hd ?_
  refine optE hf ?_
  refine optE (lst_of get_last) ?_
  refine And.intro ⟨by decide, by decide⟩ ?_
  refine optE (dat_of (get_more (get_more h0))) ?_
  refine optE (dat_of get_last) ?_
  refine And.intro ⟨rfl, rfl⟩ (ne_no ?_)
  exact h (R ++ [_] ++ [_])
theorem sl_signs {T : List Nat} {a b : Nat} (hT : ∀ k ∈ T, k = 97 ∨ k = 98 ∨ k = 99) : ∀ k ∈ sl T a b, k = 97 ∨ k = 98 ∨ k = 99 := fun k hk => hT k (List.drop_subset _ _ (List.take_subset _ _ hk))
theorem sl_le {T : List Nat} {a b : Nat} (h : T.length ≤ 3) : (sl T a b).length ≤ 3 := by
  rw [List.length_take, List.length_drop]; lia -abstractProof
include hT3 hT
theorem whole_sl {t : Pat} {n : Nat} (hn : n ≤ 1) (hp : Part t n) {M : List Nat → Prop} (hr : Reg t M) {a b : Nat} (ha : a ≤ T.length) {ob : List MO} {P : XV → List MO → Prop} (h : ∀ v X, (v = true ↔ M (sl T a b)) → P (.d (.bool v)) (ob ++ X)) : CallOk false w 80 (.ref 326) [.d t.dat, .d (.str (Txt.slice ⟨T.toArray⟩ (some (a : Int)) (some (b : Int))))] ob P := by
  rw [slice_nat ha]
  refine (whole_ok hn hp hr (sl_le hT3) (sl_signs hT)).mono (by lia -abstractProof) ?_
  rintro z o ⟨⟨v, rfl, hv⟩, X, rfl⟩
  exact h v X hv
include hi hn hx hy hz
theorem if_some {l : List (Str × XV)} {R : List MO} {P : XF → List (Str × XV) → List MO → Prop} (hk : Kp px py pz l) {k b e d j0 j1 j2 j3 j4 : Nat} (hd : l.lookup (Str.ofString "due") = some (.t [.d (.int d), .o j0])) (hf : l.lookup (Str.ofString "found") = some (.o k))
    (h0 : (obW c (some (.d (.int i))) px T R)[k]? = some (.lsx [.t [.d (.int d), .o j1], .t [.d (.int d), .o j2], .t [.d (.int d), .o j3], .t [.d (.int d), .o j4]])) (g0 : (obW c (some (.d (.int i))) px T R)[j0]? = some (.lst [])) (g1 : (obW c (some (.d (.int i))) px T R)[j1]? = some (.lst [dBE b e]))
    (g2 : (obW c (some (.d (.int i))) px T R)[j2]? = some (.lst [dBE i d])) (g3 : (obW c (some (.d (.int i))) px T R)[j3]? = some (.lst [dBE i d, dBE b e])) (g4 : (obW c (some (.d (.int i))) px T R)[j4]? = some (.lst []))
    {M N K : List Nat → Prop} (rx : Reg px M) (ry : Reg py N) (rz : Reg pz K) (hb : i < b ∧ b ≤ e ∧ e < d ∧ d ≤ T.length) (mx : M (sl T i b)) (my : N (sl T b e)) (mz : K (sl T e d))
    (h : ∀ l' X, Kp px py pz l' → P .next l' (obW c (some (.d (.int i))) px T X)) : wS (cfgC w (sScope (stAt 49)) false 80) 47 (turnS 2) l (obW c (some (.d (.int i))) px T R) P := by
  refine optE hd ?_
  refine ⟨_, _, ⟨_, _, _, _, _, _, rfl, rfl⟩, ?_⟩
  refine optE hf ?_
  refine optE (lsx_more h0) ?_
  refine And.intro (Nat.le_of_ble_eq_true rfl) ?_
  refine optE hd ?_
  (first | refine itT rfl rfl ?_ | refine ixG _ rfl rfl (Nat.le_of_ble_eq_true rfl) ?_)
  refine optE (lst_of get_last) ?_
  refine And.intro ⟨by decide, by decide⟩ ?_
  refine optE (dat_of (get_more (get_more get_last))) ?_
  refine optE (dat_of get_last) ?_
  refine And.intro ⟨rfl, rfl⟩ (ne_no ?_)
  refine optE hf ?_
  refine ifT rfl ?_
  refine itL (j := 1) (get_more (get_more (get_more h0))) rfl (Nat.le_of_ble_eq_true rfl) ?_
  refine ixG 1 rfl rfl (Nat.le_of_ble_eq_true rfl) ?_
  refine cellE hk.at_ rfl ?_
  refine optE hd ?_
  refine ixG 0 rfl rfl (Nat.le_of_ble_eq_true rfl) ?_
  refine optE (dat_of (get_more (get_more (get_more (get_more g2))))) ?_
  refine optE (dat_of get_last) ?_
  refine And.intro ⟨rfl, rfl⟩ (ne_no ?_)
  refine optE hf ?_
  refine ifT rfl ?_
  refine itL (j := 3) (get_more (get_more (get_more (get_more h0)))) rfl (Nat.le_of_ble_eq_true rfl) ?_
  refine optE hd ?_
  refine optE (dat_res (get_more (get_more (get_more (get_more g4))))) ?_
  refine optE (dat_res (get_more (get_more (get_more (get_more g0))))) ?_
  refine And.intro ⟨rfl, rfl⟩ (ne_no ?_)
  refine optE hf ?_
  refine ifT rfl ?_
  refine itL (j := 0) (get_more (get_more (get_more (get_more h0)))) rfl (Nat.le_of_ble_eq_true rfl) ?_
  refine ixG 1 rfl rfl (Nat.le_of_ble_eq_true rfl) ?_
  refine ifT rfl ?_
  refine itD (get_more (get_more (get_more (get_more g1)))) ?_
  refine ixG 0 rfl rfl (Nat.le_of_ble_eq_true rfl) ?_
  refine And.intro rfl ?_
  refine optE hf ?_
  refine ifT rfl ?_
  refine itL (j := 2) (get_more (get_more (get_more (get_more h0)))) rfl (Nat.le_of_ble_eq_true rfl) ?_
  refine ixG 1 rfl rfl (Nat.le_of_ble_eq_true rfl) ?_
  refine cellE hk.at_ rfl ?_
  refine optE hd ?_
  refine ixG 0 rfl rfl (Nat.le_of_ble_eq_true rfl) ?_
  refine optE (dat_of (get_more (get_more (get_more (get_more (get_more g3)))))) ?_
  refine optE (dat_of get_last) ?_
  refine And.intro ⟨rfl, rfl⟩ (ne_no ?_)
  refine cellE hk.at_ rfl ?_
  refine ifT rfl ?_
  refine ifT (decide_eq_true (Int.ofNat_lt.mpr hb.1)) ?_
  refine ifT (decide_eq_true (Int.ofNat_le.mpr hb.2.1)) ?_
  refine optE hd ?_
  refine ixG 0 rfl rfl (Nat.le_of_ble_eq_true rfl) ?_
  refine ifF (congrArg Bool.not (decide_eq_true (Int.ofNat_lt.mpr hb.2.2.1))) ?_
  refine cellE hk.x rfl ?_
  refine cellE hk.text rfl ?_
  refine cellE hk.at_ rfl ?_
  refine And.intro (Nat.le_trans hT3 (by decide)) ?_
  refine whole_sl hT3 hT (Nat.zero_le _) hx rx hi fun v1 X1 h1 => ?_
  refine ifF (congrArg Bool.not (h1.mpr mx)) ?_
  refine optE hk.y ?_
  refine cellE hk.text rfl ?_
  refine And.intro (Nat.le_trans hT3 (by decide)) ?_
  refine whole_sl hT3 hT hn hy ry (by lia -abstractProof) fun v2 X2 h2 => ?_
  refine ifF (congrArg Bool.not (h2.mpr my)) ?_
  refine optE hk.z ?_
  refine cellE hk.text rfl ?_
  refine optE hd ?_
  refine ixG 0 rfl rfl (Nat.le_of_ble_eq_true rfl) ?_
  refine And.intro (Nat.le_trans hT3 (by decide)) ?_
  refine whole_sl hT3 hT (Nat.zero_le _) hz rz (by lia -abstractProof) fun v3 X3 h3 => ?_
  refine ifF (congrArg Bool.not (h3.mpr mz)) ?_
  exact h ((Str.ofString "end", .d (.int e)) :: (Str.ofString "begin", .d (.int b)) :: l) (R ++ [_] ++ [_] ++ [_] ++ [_] ++ [_] ++ X1 ++ X2 ++ X3) ⟨hk.at_, hk.x, hk.text, hk.y, hk.z, hk.plain, hk.inner, hk.outer⟩
end
end
section
open PySem.Calls PySem.Spec
noncomputable def stQ : Stmt → CP
  | .Assign _ v _ => (compP v).getD ⟨.Constant .none 0 ⟨0, 0, 0, 0⟩, .Constant .none 0 ⟨0, 0, 0, 0⟩, .Constant .none 0 ⟨0, 0, 0, 0⟩, [], sScope (stAt 49), ⟨0, 0, 0, 0⟩⟩
  | _ => ⟨.Constant .none 0 ⟨0, 0, 0, 0⟩, .Constant .none 0 ⟨0, 0, 0, 0⟩, .Constant .none 0 ⟨0, 0, 0, 0⟩, [], sScope (stAt 49), ⟨0, 0, 0, 0⟩⟩
theorem rng_small : ∀ a : Nat, a ≤ 3 → ∀ b : Nat, b ≤ 3 → a ≤ b → Builtin.Range.small ((a : Int) + 1) ((b : Int) + 1) 1 = true ∧ Builtin.Range.rangeSize ((a : Int) + 1) ((b : Int) + 1) 1 = ((b - a : Nat) : Int) := by decide
theorem allD_map (es : List Nat) : allD (es.map fun (e : Nat) => XV.d (.int e)) = some (es.map fun (e : Nat) => .int e) := by
  induction es with
  | nil => rfl
  | cons e es ih =>
    show (match allD (es.map fun (e : Nat) => XV.d (.int e)) with | some l => some (Dat.int e :: l) | none => none) = _
    rw [ih]; rfl
section
variable {w : World} {px : Pat} {T : List Nat} {i c : Nat} (hT3 : T.length ≤ 3) (hT : ∀ k ∈ T, k = 97 ∨ k = 98 ∨ k = 99) (hi : i ≤ T.length) (hx : Part px 0) {M : List Nat → Prop} (rx : Reg px M)
include hT3 hT hi hx rx
theorem ends_turns {lc : List (Str × XV)} (e1 : lc.lookup (Str.ofString "at") = some (.o 1)) (e2 : lc.lookup (Str.ofString "x") = some (.o 2)) (e3 : lc.lookup (Str.ofString "text") = some (.o 3)) {P : List XV → List MO → Prop} : ∀ (ks es : List Nat) (R : List MO) {bs : List (List (Str × XV))}, bs = ks.map (fun (k : Nat) => [(Str.ofString "end", XV.d (.int k))]) → (∀ k ∈ ks, i < k ∧ k ≤ T.length) →
    (∀ (es' : List Nat) X Y, Y = R ++ X → (∀ e, e ∈ es' ↔ e ∈ es ∨ (e ∈ ks ∧ M (sl T i e) ∧ sl T i e = (T.drop e).take (e - i))) → P (es'.map fun (e : Nat) => .d (.int e)) (obW c (some (.d (.int i))) px T Y)) →
    wTurns (relC (cfgC w (sScope (stAt 49)) false 80) (stQ (turnS 4)).sc) 44 (stQ (turnS 4)).elt (stQ (turnS 4)).ifs lc P bs (es.map fun (e : Nat) => .d (.int e)) (obW c (some (.d (.int i))) px T R) := by
  intro ks
  induction ks with
  | nil =>
    rintro es R bs rfl _ h
    exact h es [] R (List.append_nil R).symm fun e => ⟨.inl, fun h => h.elim id fun h => nomatch h.1⟩
  | cons k ks ih =>
    rintro es R bs rfl hk h
    obtain ⟨k1, k2⟩ := hk k (.head _)
    have hks : ∀ k ∈ ks, i < k ∧ k ≤ T.length := fun j hj => hk j (.tail _ hj)
    refine cellE e2 rfl ?_
    refine cellE e3 rfl ?_
    refine cellE e1 rfl ?_
    refine And.intro (Nat.le_trans hT3 (by decide)) ?_
    refine whole_sl hT3 hT (Nat.zero_le _) hx rx hi fun v1 X1 h1 => ?_
    have go : ∀ (v : Bool) (X Z : List MO), X = R ++ Z → (v = true ↔ M (sl T i k) ∧ sl T i k = (T.drop k).take (k - i)) → cond v (wTurns (relC (cfgC w (sScope (stAt 49)) false 80) (stQ (turnS 4)).sc) 44 (stQ (turnS 4)).elt (stQ (turnS 4)).ifs lc P (ks.map fun (k : Nat) => [(Str.ofString "end", XV.d (.int k))]) (es.map (fun (e : Nat) => XV.d (.int e)) ++ [.d (.int k)]) (obW c (some (.d (.int i))) px T X))
        (wTurns (relC (cfgC w (sScope (stAt 49)) false 80) (stQ (turnS 4)).sc) 44 (stQ (turnS 4)).elt (stQ (turnS 4)).ifs lc P (ks.map fun (k : Nat) => [(Str.ofString "end", XV.d (.int k))]) (es.map fun (e : Nat) => XV.d (.int e)) (obW c (some (.d (.int i))) px T X)) := fun v X Z hX hv => by
      cases v with
      | true =>
        have := ih (es ++ [k]) X rfl hks fun es' X' Y hY he => h es' (Z ++ X') Y (by rw [hY, hX, List.append_assoc]) fun e => by
          rw [he, List.mem_append, List.mem_singleton, List.mem_cons]
          constructor
          · rintro ((a | rfl) | ⟨a, b⟩)
            · exact .inl a
            · exact .inr ⟨.inl rfl, hv.mp rfl⟩
            · exact .inr ⟨.inr a, b⟩
          · rintro (a | ⟨rfl | a, b⟩)
            · exact .inl (.inl a)
            · exact .inl (.inr rfl)
            · exact .inr ⟨a, b⟩
        rw [List.map_append] at this
        exact this
      | false =>
        exact ih es X rfl hks fun es' X' Y hY he => h es' (Z ++ X') Y (by rw [hY, hX, List.append_assoc]) fun e => by
          rw [he, List.mem_cons]
          constructor
          · rintro (a | ⟨a, b⟩)
            · exact .inl a
            · exact .inr ⟨.inr a, b⟩
          · rintro (a | ⟨rfl | a, b⟩)
            · exact .inl a
            · exact nomatch hv.mpr b
            · exact .inr ⟨a, b⟩
    cases v1 with
    | false => exact go false (R ++ X1) X1 rfl ⟨(fun h => nomatch h), fun h => h1.mpr h.1⟩
    | true =>
      refine cellE e3 rfl ?_
      refine cellE e1 rfl ?_
      refine And.intro (Nat.le_trans hT3 (by decide)) ?_
      refine cellE e3 rfl ?_
      refine cellE e1 rfl ?_
      refine And.intro (Nat.le_trans hT3 (by decide)) ?_
      have e : (Txt.slice ⟨T.toArray⟩ (some (i : Int)) (some (k : Int)) == Txt.slice ⟨T.toArray⟩ (some (k : Int)) (some ((k : Int) + k - i))) = decide (sl T i k = (T.drop k).take (k - i)) := by
        rw [show (k : Int) + k - i = ((k + (k - i) : Nat) : Int) by lia -abstractProof, slice_nat hi, slice_nat k2, Nat.add_sub_cancel_left]
        rw [Bool.eq_iff_iff, beq_iff_eq, decide_eq_true_iff]
        exact ⟨fun h => by simpa using congrArg (fun s => s.cps.toList) h, fun h => by rw [show sl T i k = (T.drop i).take (k - i) from rfl] at h; rw [h]⟩
      have g := go (decide (sl T i k = (T.drop k).take (k - i))) (R ++ X1) X1 rfl (by rw [decide_eq_true_iff]; exact ⟨fun h => ⟨h1.mp rfl, h⟩, fun h => h.2⟩)
      rw [← e] at g
      exact g
theorem ends_ok {l : List (Str × XV)} {R : List MO} {P : XF → List (Str × XV) → List MO → Prop} (e1 : l.lookup (Str.ofString "at") = some (.o 1)) (e2 : l.lookup (Str.ofString "x") = some (.o 2)) (e3 : l.lookup (Str.ofString "text") = some (.o 3))
    (h : ∀ (es : List Nat) X Y, Y = R ++ X → (∀ e, e ∈ es ↔ (i < e ∧ e ≤ T.length) ∧ M (sl T i e) ∧ sl T i e = (T.drop e).take (e - i)) → P .next ((Str.ofString "ends", .o (obW c (some (.d (.int i))) px T Y).length) :: l) (obW c (some (.d (.int i))) px T Y ++ [.lst (es.map fun (e : Nat) => .int e)])) :
    wS (cfgC w (sScope (stAt 49)) false 80) 45 (turnS 4) l (obW c (some (.d (.int i))) px T R) P := by
  refine ifT (Bool.and_eq_true_iff.mpr ⟨compOk_of [Str.ofString "at", Str.ofString "x", Str.ofString "text"] rfl ⟨⟨_, e1⟩, ⟨_, e2⟩, ⟨_, e3⟩, trivial⟩, rfl⟩) ?_
  refine cellE e1 rfl ?_
  refine cellE e3 rfl ?_
  refine And.intro (Nat.le_trans hT3 (by decide)) ?_
  obtain ⟨s1, s2⟩ := rng_small i (by lia -abstractProof) T.length hT3 hi
  refine ⟨T.length - i, ⟨by lia -abstractProof, s1, s2⟩, ?_⟩
  refine ends_turns hT3 hT hi hx rx (cellsL_at rfl e1) (cellsL_at rfl e2) (cellsL_at rfl e3) ((List.range (T.length - i)).map fun k => i + 1 + k) [] R (bs := _) ?_ ?_ ?_
  · rw [List.map_map, List.map_map]; rfl
  · intro k hk
    obtain ⟨j, hj, rfl⟩ := List.mem_map.mp hk
    have := List.mem_range.mp hj
    lia -abstractProof
  · intro es X Y hY he
    show P .next _ (_ ++ [mkL _])
    unfold mkL
    rw [allD_map]
    refine h es X Y hY fun e => (he e).trans ⟨fun h => h.elim (fun h => nomatch h) fun ⟨a, b⟩ => ⟨?_, b⟩, fun ⟨a, b⟩ => .inr ⟨List.mem_map.mpr ⟨e - i - 1, List.mem_range.mpr (by lia -abstractProof), by lia -abstractProof⟩, b⟩⟩
    obtain ⟨j, hj, rfl⟩ := List.mem_map.mp a
    have := List.mem_range.mp hj
    lia -abstractProof
end
end
section
open PySem.Calls PySem.Spec
theorem kqd_ints (es : List Nat) : kqdOk 8 (.list (es.map fun (e : Nat) => .int e)) = true := by
  show (es.map fun (e : Nat) => Dat.int e).all (kqdOk 7) = true
  rw [List.all_map]
  exact List.all_eq_true.mpr fun _ _ => rfl
theorem ints_of (es : List Nat) : intsA (es.map fun (e : Nat) => .int e) = some (es.map fun (e : Nat) => (e : Int)) := by
  induction es with
  | nil => rfl
  | cons e es ih =>
    show (intsA (es.map fun (e : Nat) => .int e)).map _ = _
    rw [ih]; rfl
theorem noe_lt {M : List Nat → Prop} (hM : NoE M) {T : List Nat} {i e : Nat} (h1 : i ≤ e) (h : M (sl T i e)) : i < e := by
  rcases Nat.lt_or_ge i e with h2 | h2
  · exact h2
  · obtain rfl : e = i := by lia -abstractProof
    rw [sl_self] at h; exact (hM h).elim
section
variable {w : World} {px : Pat} {T : List Nat} {i c : Nat} (hT3 : T.length ≤ 3) (hT : ∀ k ∈ T, k = 97 ∨ k = 98 ∨ k = 99) (hi : i ≤ T.length) (hx : Part px 0) {M : List Nat → Prop} (rx : Reg px M) (hM : NoE M)
include hi rx hM
theorem twice_facts : (((Pat.seq2 (.grpN 1 px) (.back 1)).ev T (i, [.none])).head? = none ∧ ∀ e, ¬ ((i < e ∧ e ≤ T.length) ∧ M (sl T i e) ∧ sl T i e = (T.drop e).take (e - i))) ∨ ∃ e : Nat, ((Pat.seq2 (.grpN 1 px) (.back 1)).ev T (i, [.none])).head? = some (e + (e - i), [dBE i e]) ∧ (i < e ∧ e ≤ T.length) ∧ M (sl T i e) ∧ sl T i e = (T.drop e).take (e - i) := by
  rw [twice_ev rx]
  cases hh : ((px.to T i).flatMap fun e => if sl T i e = (T.drop e).take (e - i) then [(e + (e - i), [dBE i e])] else []).head? with
  | none =>
    refine .inl ⟨rfl, fun e he => ?_⟩
    have := List.flatMap_eq_nil_iff.mp (List.head?_eq_none_iff.mp hh) e ((rx.mem T i hi e).mpr ⟨by lia -abstractProof, he.1.2, he.2.1⟩)
    rw [if_pos he.2.2] at this
    cases this
  | some p =>
    obtain ⟨e, h1, h2⟩ := List.mem_flatMap.mp (List.mem_of_mem_head? hh)
    by_cases h : sl T i e = (T.drop e).take (e - i)
    · rw [if_pos h] at h2
      obtain rfl := List.mem_singleton.mp h2
      obtain ⟨a, b, k⟩ := (rx.mem T i hi e).mp h1
      exact .inr ⟨e, rfl, ⟨noe_lt hM a k, b⟩, k, h⟩
    · rw [if_neg h] at h2; cases h2
include hT3 hT hx
theorem twice_ok {l : List (Str × XV)} {R : List MO} {P : XF → List (Str × XV) → List MO → Prop} (e1 : l.lookup (Str.ofString "at") = some (.o 1)) (e2 : l.lookup (Str.ofString "x") = some (.o 2)) (e3 : l.lookup (Str.ofString "text") = some (.o 3))
    (h : ∀ (v u : XV) X, P .next ((Str.ofString "ends", v) :: (Str.ofString "twice", u) :: l) (obW c (some (.d (.int i))) px T X)) :
    wSs (cfgC w (sScope (stAt 49)) false 80) 47 (turnB.drop 3) l (obW c (some (.d (.int i))) px T R) P := by
  have hr : gs0 (Pat.seq2 (.grpN 1 px) (.back 1)) = [.none] := by
    show List.replicate (px.grps + 1 + 0) Dat.none = _
    rw [hx.grps]; rfl
  refine cellE e2 rfl ?_
  refine cellE e3 rfl ?_
  refine cellE e1 rfl ?_
  refine CallOk.to (newL) (by lia -abstractProof) ?_
  refine CallOk.to2 ((match_is (fit_twice hx) hT3 hT hi rfl)) (Nat.le_refl _) ?_
  rintro j1 X1 h1
  rw [hr] at h1 ⊢
  rcases twice_facts (T := T) hi rx hM with ⟨ht, hno⟩ | ⟨e, ht, hyes⟩
  · rw [ht]
    refine ends_ok hT3 hT hi hx rx (R := R ++ X1) e1 e2 e3 fun es X2 Y hY he => ?_
    obtain rfl : es = [] := List.eq_nil_iff_forall_not_mem.mpr fun e h => hno e ((he e).mp h)
    refine optE (dat_of (get_more get_last)) ?_
    refine optE (dat_of get_last) ?_
    refine And.intro ⟨rfl, rfl⟩ fun r hr2 => ?_
    obtain rfl : r = true := hr2.mpr rfl
    exact h _ _ (Y ++ [_] ++ [_])
  · rw [ht]
    refine ends_ok hT3 hT hi hx rx (R := R ++ X1) e1 e2 e3 fun es X2 Y hY he => ?_
    have hm := (he e).mpr hyes
    refine optE (dat_of (get_more get_last)) ?_
    refine optE (dat_of get_last) ?_
    refine And.intro ⟨kqd_ints es, rfl⟩ fun r hr2 => ?_
    obtain rfl : r = false := by
      cases r with
      | false => rfl
      | true =>
        have := hr2.mp rfl
        cases es with
        | nil => cases hm
        | cons _ _ => injection this with this; cases this
    have hj : (obW c (some (.d (.int i))) px T Y)[j1]? = some (.lst [dBE i e]) := by
      rw [hY]
      exact get_more (h1 _ ht)
    refine ixG 1 rfl rfl (Nat.le_of_ble_eq_true rfl) ?_
    refine ifT rfl ?_
    refine itD (get_more (get_more hj)) ?_
    refine ixG 0 rfl rfl (Nat.le_of_ble_eq_true rfl) ?_
    (first | refine itT rfl rfl ?_ | refine ixG _ rfl rfl (Nat.le_of_ble_eq_true rfl) ?_)
    refine optE (lst_of (get_more get_last)) ?_
    refine optE (ints_of es) ?_
    refine ifF (congrArg Bool.not (List.contains_iff_mem.mpr (List.mem_map.mpr ⟨e, hm, rfl⟩))) ?_
    refine ixG 0 rfl rfl (Nat.le_of_ble_eq_true rfl) ?_
    refine ixG 1 rfl rfl (Nat.le_of_ble_eq_true rfl) ?_
    refine ifT rfl ?_
    refine itD (get_more (get_more hj)) ?_
    refine ixG 0 rfl rfl (Nat.le_of_ble_eq_true rfl) ?_
    (first | refine itT rfl rfl ?_ | refine ixG _ rfl rfl (Nat.le_of_ble_eq_true rfl) ?_)
    refine And.intro ⟨by decide, by decide⟩ ?_
    refine cellE e1 rfl ?_
    refine ifF (bne_eq_false_iff_eq.mpr (by show ((e + (e - i) : Nat) : Int) = 2 * (e : Int) - i; lia -abstractProof)) ?_
    exact h _ _ (Y ++ [_] ++ [_])
end
end
section
open PySem.Calls PySem.Spec
theorem get_obW {c : Nat} {i : Option XV} {px : Pat} {T : List Nat} {X : List MO} {m : MO} : (obW c i px T (X ++ [m]))[(obW c i px T X).length]? = some m := get_last (O := obW c i px T X)
theorem Kp.cons {px py pz : Pat} {l : List (Str × XV)} (hk : Kp px py pz l) {v : XV} {x : Str} (hx : [Str.ofString "due", Str.ofString "found", Str.ofString "twice", Str.ofString "ends"].contains x = true) : Kp px py pz ((x, v) :: l) := by
  have h : x = Str.ofString "due" ∨ x = Str.ofString "found" ∨ x = Str.ofString "twice" ∨ x = Str.ofString "ends" := by simpa using List.contains_iff_mem.mp hx
  rcases h with rfl | rfl | rfl | rfl <;> exact ⟨hk.at_, hk.x, hk.text, hk.y, hk.z, hk.plain, hk.inner, hk.outer⟩
section
variable {w : World} {px py pz : Pat} {T : List Nat} {i c n : Nat} (hT3 : T.length ≤ 3) (hT : ∀ k ∈ T, k = 97 ∨ k = 98 ∨ k = 99) (hi : i ≤ T.length) (hn : n ≤ 1) (hx : Part px 0) (hy : Part py n) (hz : Part pz 0)
  {M N K : List Nat → Prop} (rx : Reg px M) (ry : Reg py N) (rz : Reg pz K) (hM : NoE M) (hK : NoE K)
include hT3 hT hi hn hx hy hz rx ry rz hM hK
theorem turn_law {l : List (Str × XV)} {R : List MO} {P : XF → List (Str × XV) → List MO → Prop} (hk : Kp px py pz l) (h : ∀ l' X, Kp px py pz l' → P .next l' (obW c (some (.d (.int i))) px T X)) :
    wSs (cfgC w (sScope (stAt 49)) false 80) 50 turnB l (obW c (some (.d (.int i))) px T R) P := by
  have g : ∀ {k g : Nat} {t : Pat}, t.grps = k → gs0 t = List.replicate k .none := fun h => by unfold gs0; rw [h]
  have e0 : ((Pat.seq3 px py pz).ev T (i, gs0 (Pat.seq3 px py pz))).head? = (Pat.trip px py pz T i).head?.map fun q => (q.2.2, []) := by
    rw [show gs0 (Pat.seq3 px py pz) = [] by unfold gs0; rw [show (Pat.seq3 px py pz).grps = 0 by show px.grps + (py.grps + pz.grps) = 0; rw [hx.grps, hy.grps, hz.grps]]; rfl, plain_ev rx ry rz, List.head?_map]
  have e4 : ((Pat.grp (.seq3 px py pz)).ev T (i, gs0 (Pat.grp (.seq3 px py pz)))).head? = (Pat.trip px py pz T i).head?.map fun q => (q.2.2, []) := e0
  have e1 : ((Pat.seq3 px (.grpN 1 py) pz).ev T (i, gs0 (Pat.seq3 px (.grpN 1 py) pz))).head? = (Pat.trip px py pz T i).head?.map fun q => (q.2.2, [dBE q.1 q.2.1]) := by
    rw [show gs0 (Pat.seq3 px (.grpN 1 py) pz) = [.none] by unfold gs0; rw [show (Pat.seq3 px (.grpN 1 py) pz).grps = 1 by show px.grps + (py.grps + 1 + pz.grps) = 1; rw [hx.grps, hy.grps, hz.grps]]; rfl, mid_ev rx ry rz, List.head?_map]; rfl
  have e2 : ((Pat.grpN 1 (.seq3 px py pz)).ev T (i, gs0 (Pat.grpN 1 (.seq3 px py pz)))).head? = (Pat.trip px py pz T i).head?.map fun q => (q.2.2, [dBE i q.2.2]) := by
    rw [show gs0 (Pat.grpN 1 (.seq3 px py pz)) = [.none] by unfold gs0; rw [show (Pat.grpN 1 (.seq3 px py pz)).grps = 1 by show px.grps + (py.grps + pz.grps) + 1 = 1; rw [hx.grps, hy.grps, hz.grps]]; rfl, grpN_ev (plain_ev rx ry rz), List.head?_map]; rfl
  have e3 : ((Pat.grpN 1 (.seq3 px (.grpN 2 py) pz)).ev T (i, gs0 (Pat.grpN 1 (.seq3 px (.grpN 2 py) pz)))).head? = (Pat.trip px py pz T i).head?.map fun q => (q.2.2, [dBE i q.2.2, dBE q.1 q.2.1]) := by
    rw [show gs0 (Pat.grpN 1 (.seq3 px (.grpN 2 py) pz)) = [.none, .none] by unfold gs0; rw [show (Pat.grpN 1 (.seq3 px (.grpN 2 py) pz)).grps = 2 by show px.grps + (py.grps + 1 + pz.grps) + 1 = 2; rw [hx.grps, hy.grps, hz.grps]]; rfl, grpN_ev (mid_ev rx ry rz), List.head?_map]; rfl
  refine optE hk.plain ?_
  refine cellE hk.text rfl ?_
  refine cellE hk.at_ rfl ?_
  refine CallOk.to (newL) (by lia -abstractProof) ?_
  refine CallOk.to2 ((match_is (fit_plain hn hx hy hz) hT3 hT hi e0)) (Nat.le_refl _) ?_
  rintro j0 X0 h0
  have last : ∀ {l' : List (Str × XV)} {X : List MO}, Kp px py pz l' → wSs (cfgC w (sScope (stAt 49)) false 80) 47 (turnB.drop 3) l' (obW c (some (.d (.int i))) px T X) P := fun hk' =>
    twice_ok hT3 hT hi hx rx hM hk'.at_ hk'.x hk'.text fun v u X => h _ _ ((hk'.cons rfl).cons rfl)
  cases hq : (Pat.trip px py pz T i).head? with
  | none =>
    rw [hq] at e0 e1 e2 e3 e4
    refine found_ok hT3 hT hi hn hx hy hz (R := R ++ X0) (hk.cons (x := Str.ofString "due") rfl) e1 e2 e3 e4 ?_
    intro j1 j2 j3 j4 X O _ _ _ _
    refine if_none (w := w) (px := px) (T := T) (i := i) (c := c) (l := (Str.ofString "found", .o (obW c (some (.d (.int i))) px T (R ++ X0 ++ X)).length) :: (Str.ofString "due", .d .none) :: l) (k := (obW c (some (.d (.int i))) px T (R ++ X0 ++ X)).length) (R := R ++ X0 ++ X ++ [_]) rfl rfl get_obW ?_
    intro X2
    exact last ((hk.cons (x := Str.ofString "due") rfl).cons (x := Str.ofString "found") rfl)
  | some q =>
    obtain ⟨b, e, d⟩ := q
    rw [hq] at e0 e1 e2 e3 e4 h0
    obtain ⟨⟨o1, o2, o3, o4⟩, mx, my, mz⟩ := trip_mem rx ry rz hi (List.mem_of_mem_head? hq)
    have hib := noe_lt hM o1 mx
    have hed := noe_lt hK o3 mz
    refine found_ok hT3 hT hi hn hx hy hz (R := R ++ X0) (hk.cons (x := Str.ofString "due") rfl) e1 e2 e3 e4 ?_
    intro j1 j2 j3 j4 X O h1 h2 h3 h4
    refine if_some hT3 hT hi hn hx hy hz (k := (obW c (some (.d (.int i))) px T (R ++ X0 ++ X)).length) (R := R ++ X0 ++ X ++ [_]) ((hk.cons (x := Str.ofString "due") rfl).cons (x := Str.ofString "found") rfl) rfl rfl get_obW (get_more (get_more (h0 _ rfl))) (get_more (h1 _ rfl)) (get_more (h2 _ rfl)) (get_more (h3 _ rfl)) (get_more (h4 _ rfl)) rx ry rz ⟨hib, o2, hed, o4⟩ mx my mz ?_
    intro l' X2 hk'
    exact last hk'
end
end
section
open PySem.Calls PySem.Spec
theorem slotE {l : List (Str × XV)} {x : Str} {ob : List MO} {k : Nat} {K : Nat → Prop} (e : l.lookup x = some (.o k)) (h : isCO ob[k]? = true) (hK : K k) : optX (l.lookup x) fun v => optX (asO v) fun k => cond (isCO ob[k]?) (K k) False := optE e (ifT h hK)
theorem term_on {w : World} {r : Nat} {m c : Int} {R : Pat → Prop} (h : CallOk false w r (.ref 319) [.o 0, .d (.int m)] [.lst [.int c]] fun z o => ∃ (p : Pat) (c' : Int), z = .d p.dat ∧ R p ∧ o = [.lst [.int c']]) {ob : List MO} :
    CallOk false w r (.ref 319) [.o ob.length, .d (.int m)] (ob ++ [.lst [.int c]]) fun z o => ∃ (p : Pat) (X : List MO), z = .d p.dat ∧ R p ∧ o = ob ++ X := by
  refine (CallOk.onN (σ := [ob.length]) (q := ([.lst [.int c]], ob ++ [.gone])) (f := fun _ => 0) (p := fun k => k == ob.length) h sel_last (fun k hk => by rw [beq_iff_eq.mp hk]; rfl) (by simp [fldOk]) rfl (by rintro z o ⟨p, c', rfl, _, rfl⟩; exact ⟨rfl, rfl⟩)).mono (Nat.le_refl _) ?_
  rintro z o ⟨z', o', ⟨p, c', rfl, hp, rfl⟩, rfl, rfl⟩
  exact ⟨p, _, rfl, hp, List.append_assoc _ _ _⟩
theorem term_to {w : World} {r r' : Nat} {xs : List XV} {ob ob0 : List MO} {R : Pat → Prop} {P : XV → List MO → Prop} (h : CallOk false w r (.ref 319) xs ob0 fun z o => ∃ (p : Pat) (X : List MO), z = .d p.dat ∧ R p ∧ o = ob ++ X) (hr : r ≤ r') (k : ∀ p X, R p → P (.d p.dat) (ob ++ X)) : CallOk false w r' (.ref 319) xs ob0 P := h.mono hr fun z o e => by obtain ⟨p, X, rfl, h, rfl⟩ := e; exact k p X h
noncomputable abbrev obI (T : List Int) (R : List MO) : List MO := .cell (some (.o 4)) :: .cell none :: .cell none :: .cell none :: .lst (T.map .int) :: R
noncomputable abbrev bodyS (k : Nat) : Stmt := (sBody (stAt 49)).getD k (.Pass ⟨0, 0, 0, 0⟩)
section
variable {w : World} {c0 c1 c2 c3 c4 : Int} (h0 : 0 ≤ c0) (h1 : 0 ≤ c1) (h2 : 0 ≤ c2)
include h0 h1 h2
theorem terms_law {l : List (Str × XV)} (ec : l.lookup (Str.ofString "cells") = some (.o 0)) (ex : l.lookup (Str.ofString "x") = some (.o 2)) {P : XF → List (Str × XV) → List MO → Prop}
    (h : ∀ (px py pz : Pat) X, Term1 px → (if 0 < c3.fmod 3 then Term0 py else Term1 py) → Term1 pz → P .next ((Str.ofString "z", .d pz.dat) :: (Str.ofString "y", .d py.dat) :: l) (.cell (some (.o 4)) :: .cell none :: .cell (some (.d px.dat)) :: .cell none :: .lst ([c0, c1, c2, c3, c4].map .int) :: X)) :
    wS (cfgC w (sScope (stAt 49)) false 80) 57 (bodyS 1) l (obI [c0, c1, c2, c3, c4] []) P := by
  have cl := fun sc h => cellsL_at (sc := sc) h ec
  refine ifT (Bool.and_eq_true_iff.mpr ⟨compOk_of [Str.ofString "cells"] rfl ⟨⟨_, ec⟩, trivial⟩, rfl⟩) ?_
  refine cellE ec rfl ?_
  refine And.intro ⟨Nat.le_of_ble_eq_true rfl, by decide⟩ ?_
  refine And.intro (Nat.le_of_ble_eq_true rfl) ?_
  refine term_to (term_on (term1v h0)) (by lia -abstractProof) ?_
  rintro px X0 tx
  refine cellE (cl _ rfl) rfl ?_
  (first | refine itT rfl rfl ?_ | refine ixG _ rfl rfl (Nat.le_of_ble_eq_true rfl) ?_)
  have fin : ∀ (py : Pat) (X : List MO), (if 0 < c3.fmod 3 then Term0 py else Term1 py) → ∀ {P' : XV → List MO → Prop}, (∀ (pz : Pat) X2, Term1 pz → P' (.d pz.dat) (obI [c0, c1, c2, c3, c4] (X ++ X2))) → CallOk false w 80 (.ref 319) [.o (obI [c0, c1, c2, c3, c4] X).length, .d (.int 1)] (obI [c0, c1, c2, c3, c4] X ++ [.lst [.int c2]]) P' := fun py X hy P' hP => by
    refine term_to (term_on (term1v h2)) (by lia -abstractProof) ?_
    rintro pz X2 tz
    exact hP pz X2 tz
  by_cases h3 : 0 < c3.fmod 3
  · (first | refine ifT (decide_eq_true h3) ?_ | (refine ifT rfl ?_; first | refine ifT (decide_eq_true h3) ?_ | (refine ifT rfl ?_; refine ifT (decide_eq_true h3) ?_)))
    refine term_to (term_on ((term0v h1).mono (Nat.le_refl _) fun z o h => by obtain ⟨p, e, r, q⟩ := h; exact ⟨p, _, e, r, q⟩)) (by lia -abstractProof) ?_
    rintro py X1 ty
    refine fin py ([.gone] ++ X0 ++ X1) (by rw [if_pos h3]; exact ty) fun pz X2 tz => ?_
    refine And.intro rfl ?_
    refine slotE ex rfl ?_
    exact h px py pz ([.gone] ++ X0 ++ X1 ++ X2 ++ [_]) tx (by rw [if_pos h3]; exact ty) tz
  · (first | refine ifF (decide_eq_false h3) ?_ | (refine ifT rfl ?_; first | refine ifF (decide_eq_false h3) ?_ | (refine ifT rfl ?_; refine ifF (decide_eq_false h3) ?_)))
    refine term_to (term_on (term1v h1)) (by lia -abstractProof) ?_
    rintro py X1 ty
    refine fin py ([.gone] ++ X0 ++ X1) (by rw [if_neg h3]; exact ty) fun pz X2 tz => ?_
    refine And.intro rfl ?_
    refine slotE ex rfl ?_
    exact h px py pz ([.gone] ++ X0 ++ X1 ++ X2 ++ [_]) tx (by rw [if_neg h3]; exact ty) tz
end
end
section
open PySem.Calls PySem.Spec
theorem txt_app (T : List Nat) (c : Nat) : ((⟨T.toArray⟩ : Str) ++ (⟨#[c]⟩ : Str) : Str) = ⟨(T ++ [c]).toArray⟩ := by
  show (⟨T.toArray ++ #[c]⟩ : Str) = _
  simp
theorem rest_step (rest : Nat) : (rest : Int).fdiv 4 = ((rest / 4 : Nat) : Int) := by
  have e : (rest : Int).fdiv 4 = (rest : Int) / 4 := Int.fdiv_eq_ediv_of_nonneg _ (by decide)
  lia -abstractProof
theorem abc_at {j : Nat} (h : j < 3) : (Str.ofString "abc").cps.toList[j]? = some (97 + j) := by
  have h : j = 0 ∨ j = 1 ∨ j = 2 := by lia -abstractProof
  rcases h with rfl | rfl | rfl <;> rfl
theorem rng_at {k : Nat} (h : k ≤ 2) : Builtin.Range.small 0 (k : Int) 1 = true ∧ Builtin.Range.rangeSize 0 (k : Int) 1 = (k : Int) := by
  have h3 : k = 0 ∨ k = 1 ∨ k = 2 := by lia -abstractProof
  rcases h3 with rfl | rfl | rfl <;> decide +kernel
structure Kq (py pz : Pat) (l : List (Str × XV)) : Prop where
  at_ : l.lookup (Str.ofString "at") = some (.o 1)
  x : l.lookup (Str.ofString "x") = some (.o 2)
  text : l.lookup (Str.ofString "text") = some (.o 3)
  y : l.lookup (Str.ofString "y") = some (.d py.dat)
  z : l.lookup (Str.ofString "z") = some (.d pz.dat)
section
variable {w : World} {px py pz : Pat} {T : List Nat} {c n : Nat} (hT3 : T.length ≤ 3) (hT : ∀ k ∈ T, k = 97 ∨ k = 98 ∨ k = 99) (hn : n ≤ 1) (hx : Part px 0) (hy : Part py n) (hz : Part pz 0)
  {M N K : List Nat → Prop} (rx : Reg px M) (ry : Reg py N) (rz : Reg pz K) (hM : NoE M) (hK : NoE K)
include hT3 hT hn hx hy hz rx ry rz hM hK
theorem turns_law {P : XF → List (Str × XV) → List MO → Prop} (h : ∀ l ob, P .next l ob) {ks : List Nat} : ∀ {l : List (Str × XV)} {i : Option XV} {R : List MO}, (∀ k ∈ ks, k ≤ T.length) → Kp px py pz l →
    forC (fun l ob P => wSs (cfgC w (sScope (stAt 49)) false 80) 50 turnB l ob P) (Str.ofString "at") P (ks.map fun (k : Nat) => .int k) l (obW c i px T R) := by
  induction ks with
  | nil => intro l i R _ _; exact h _ _
  | cons k ks ih =>
    intro l i R hk kp
    refine slotE kp.at_ rfl ?_
    exact turn_law hT3 hT (hk k (.head _)) hn hx hy hz rx ry rz hM hK (R := R) kp fun l' X kp' => ih (fun j hj => hk j (.tail _ hj)) kp'
theorem loop_law {l : List (Str × XV)} {i : Option XV} {R : List MO} (hk : Kq py pz l) : wSs (cfgC w (sScope (stAt 49)) false 80) 54 ((sBody (stAt 49)).drop 5) l (obW c i px T R) fun xf _ _ => xf = .ret (.d (.bool true)) := by
  refine cellE hk.x rfl ?_
  refine optE hk.y ?_
  refine optE hk.z ?_
  refine cellE hk.x rfl ?_
  refine optE hk.y ?_
  refine optE hk.z ?_
  refine And.intro rfl ?_
  refine cellE hk.x rfl ?_
  refine optE hk.y ?_
  refine optE hk.z ?_
  refine cellE hk.text rfl ?_
  refine And.intro (Nat.le_trans hT3 (by decide)) ?_
  obtain ⟨k, hk', k2, kl⟩ : ∃ k : Nat, (if (T.length : Int) + 1 < 2 then (T.length : Int) + 1 else 2) = (k : Int) ∧ k ≤ 2 ∧ k ≤ T.length + 1 := by
    by_cases h : (T.length : Int) + 1 < 2
    · rw [if_pos h]; exact ⟨T.length + 1, rfl, by lia -abstractProof, Nat.le_refl _⟩
    · rw [if_neg h]; exact ⟨2, rfl, Nat.le_refl _, by lia -abstractProof⟩
  refine ⟨k, ⟨hk', (rng_at k2).1, (rng_at k2).2⟩, ?_⟩
  refine turns_law hT3 hT hn hx hy hz rx ry rz hM hK (fun l ob => rfl) (fun k hk => by have := List.mem_range.mp hk; lia -abstractProof) ?_
  exact ⟨hk.at_, hk.x, hk.text, hk.y, hk.z, rfl, rfl, rfl⟩
end
noncomputable def TxtI (px py pz : Pat) (R : List MO) (l : List (Str × XV)) (ob : List MO) (m : Nat) : Prop := ∃ T : List Nat, l = [(Str.ofString "rest", .d (.int m)), (Str.ofString "at", .o 1), (Str.ofString "x", .o 2), (Str.ofString "text", .o 3), (Str.ofString "y", .d py.dat), (Str.ofString "z", .d pz.dat)] ∧ ob = obW 4 none px T R ∧ (∃ k, T.length + k = 3 ∧ m < 4 ^ k) ∧ ∀ k ∈ T, k = 97 ∨ k = 98 ∨ k = 99
section
variable {w : World} {px py pz : Pat} {n : Nat} (hn : n ≤ 1) (hx : Part px 0) (hy : Part py n) (hz : Part pz 0) {M N K : List Nat → Prop} (rx : Reg px M) (ry : Reg py N) (rz : Reg pz K) (hM : NoE M) (hK : NoE K)
include hn hx hy hz rx ry rz hM hK
theorem text_law {c0 c1 c2 c3 c4 : Int} (h4 : 0 ≤ c4) {l : List (Str × XV)} {X : List MO} (ec : l.lookup (Str.ofString "cells") = some (.o 0)) (hk : Kq py pz l) : wSs (cfgC w (sScope (stAt 49)) false 80) 56 ((sBody (stAt 49)).drop 3) l (.cell (some (.o 4)) :: .cell none :: .cell (some (.d px.dat)) :: .cell none :: .lst ([c0, c1, c2, c3, c4].map .int) :: X) fun xf _ _ => xf = .ret (.d (.bool true)) := by
  have e64 : c4.fmod 64 = c4 % 64 := Int.fmod_eq_emod_of_nonneg c4 (by decide)
  obtain ⟨r0, hr0, hr64⟩ : ∃ r : Nat, c4.fmod 64 = r ∧ r < 64 := ⟨(c4.fmod 64).toNat, by lia -abstractProof, by lia -abstractProof⟩
  refine cellE ec rfl ?_
  (first | refine itT rfl rfl ?_ | refine ixG _ rfl rfl (Nat.le_of_ble_eq_true rfl) ?_)
  refine And.intro rfl ?_
  refine slotE hk.text rfl ?_
  refine whI (TxtI px py pz (.lst ([c0, c1, c2, c3, c4].map .int) :: X)) r0 [(Str.ofString "rest", .d (.int r0)), (Str.ofString "at", .o 1), (Str.ofString "x", .o 2), (Str.ofString "text", .o 3), (Str.ofString "y", .d py.dat), (Str.ofString "z", .d pz.dat)] ⟨by rw [← hr0]; rfl, hk.at_, hk.x, hk.text, hk.y, hk.z, trivial⟩ ⟨[], rfl, rfl, ⟨3, rfl, hr64⟩, fun k hk => nomatch hk⟩ ?_
  rintro l1 ob1 m ⟨T, rfl, rfl, ⟨k, hk3, hrk⟩, hT⟩
  by_cases hp : 0 < m
  · (first | refine ifT (decide_eq_true (Int.ofNat_lt.mpr hp)) ?_ | (refine ifT rfl ?_; first | refine ifT (decide_eq_true (Int.ofNat_lt.mpr hp)) ?_ | (refine ifT rfl ?_; refine ifT (decide_eq_true (Int.ofNat_lt.mpr hp)) ?_)))
    obtain ⟨j, hj, hj3⟩ : ∃ j : Nat, ((m : Int).fmod 4).fmod 3 = j ∧ j < 3 := by
      have e1 : (m : Int).fmod 4 = (m : Int) % 4 := Int.fmod_eq_emod_of_nonneg _ (by decide)
      have e2 : ((m : Int).fmod 4).fmod 3 = ((m : Int).fmod 4) % 3 := Int.fmod_eq_emod_of_nonneg _ (by decide)
      exact ⟨(((m : Int).fmod 4).fmod 3).toNat, by lia -abstractProof, by lia -abstractProof⟩
    refine ixG j hj (abc_at hj3) (Nat.le_of_ble_eq_true rfl) ?_
    refine And.intro (show T.length + 1 ≤ 1000 by lia -abstractProof) ?_
    refine And.intro rfl ?_
    have hc : 97 + j = 97 ∨ 97 + j = 98 ∨ 97 + j = 99 := by lia -abstractProof
    refine ⟨m / 4, [(Str.ofString "rest", .d (.int ((m / 4 : Nat) : Int))), (Str.ofString "at", .o 1), (Str.ofString "x", .o 2), (Str.ofString "text", .o 3), (Str.ofString "y", .d py.dat), (Str.ofString "z", .d pz.dat)], by lia -abstractProof, ⟨congrArg (fun x => some (XV.d (.int x))) (rest_step m), rfl, rfl, rfl, rfl, rfl, trivial⟩, T ++ [97 + j], rfl, ?_, ?_, fun x hx => ?_⟩
    · exact congrArg (fun x => MO.cell (some (.o 4)) :: .cell none :: .cell (some (.d px.dat)) :: .cell (some (.d (.str x))) :: .lst ([c0, c1, c2, c3, c4].map .int) :: X) (txt_app T (97 + j))
    · cases k with
      | zero => simp at hrk; lia -abstractProof
      | succ k =>
        refine ⟨k, by rw [List.length_append, List.length_singleton]; lia -abstractProof, ?_⟩
        rw [Nat.pow_succ] at hrk; lia -abstractProof
    · rcases List.mem_append.mp hx with hx | hx
      · exact hT x hx
      · rw [List.mem_singleton.mp hx]; exact hc
  · (first | refine ifF (decide_eq_false (fun h => hp (Int.ofNat_lt.mp h))) ?_ | (refine ifT rfl ?_; first | refine ifF (decide_eq_false (fun h => hp (Int.ofNat_lt.mp h))) ?_ | (refine ifT rfl ?_; refine ifF (decide_eq_false (fun h => hp (Int.ofNat_lt.mp h))) ?_)))
    exact loop_law (by lia -abstractProof) hT hn hx hy hz rx ry rz hM hK ⟨rfl, rfl, rfl, rfl, rfl⟩
end
theorem tail_law {w : World} {c0 c1 c2 c3 c4 : Int} (h0 : 0 ≤ c0) (h1 : 0 ≤ c1) (h2 : 0 ≤ c2) (h3 : 0 ≤ c3) (h4 : 0 ≤ c4) {l : List (Str × XV)} (ec : l.lookup (Str.ofString "cells") = some (.o 0)) (ea : l.lookup (Str.ofString "at") = some (.o 1)) (ex : l.lookup (Str.ofString "x") = some (.o 2)) (et : l.lookup (Str.ofString "text") = some (.o 3)) :
    wSs (cfgC w (sScope (stAt 49)) false 80) 58 ((sBody (stAt 49)).drop 1) l (obI [c0, c1, c2, c3, c4] []) fun xf _ _ => xf = .ret (.d (.bool true)) := by
  refine terms_law h0 h1 h2 ec ex fun px py pz X tx ty tz => ?_
  obtain ⟨M, rx, hM⟩ := reg1 tx
  obtain ⟨K, rz, hK⟩ := reg1 tz
  have e3 : c3.fmod 3 = c3 % 3 := Int.fmod_eq_emod_of_nonneg c3 (by decide)
  have ed : c3.fdiv 3 = c3 / 3 := Int.fdiv_eq_ediv_of_nonneg c3 (by decide)
  have e2 : (c3.fdiv 3).fmod 2 = (c3.fdiv 3) % 2 := Int.fmod_eq_emod_of_nonneg _ (by decide)
  refine cellE ec rfl ?_
  (first | refine itT rfl rfl ?_ | refine ixG _ rfl rfl (Nat.le_of_ble_eq_true rfl) ?_)
  by_cases hp : 0 < c3.fmod 3
  · rw [if_pos hp] at ty
    obtain ⟨q, hq, hq1⟩ : ∃ q : Nat, (c3.fdiv 3).fmod 2 = q ∧ q ≤ 1 := ⟨((c3.fdiv 3).fmod 2).toNat, by lia -abstractProof, by lia -abstractProof⟩
    have tY : TermY (.rep q none (c3.fmod 3 == 2) py) := .rep hq1 ty
    obtain ⟨n, hn, hy⟩ := termy_part tY
    obtain ⟨N, ry⟩ := regY tY
    (first | refine ifT (decide_eq_true hp) ?_ | (refine ifT rfl ?_; first | refine ifT (decide_eq_true hp) ?_ | (refine ifT rfl ?_; refine ifT (decide_eq_true hp) ?_)))
    refine cellE ec rfl ?_
    (first | refine itT rfl rfl ?_ | refine ixG _ rfl rfl (Nat.le_of_ble_eq_true rfl) ?_)
    refine cellE ec rfl ?_
    (first | refine itT rfl rfl ?_ | refine ixG _ rfl rfl (Nat.le_of_ble_eq_true rfl) ?_)
    refine text_law hn (term1_part tx) hy (term1_part tz) rx ry rz hM hK h4 ec ⟨ea, ex, et, ?_, rfl⟩
    show some (XV.d (.tuple [.str (Str.ofString "repeat"), .int ((c3.fdiv 3).fmod 2), .none, .bool (c3.fmod 3 == 2), py.dat, .int 1, .int 1])) = _
    rw [hq]; rfl
  · rw [if_neg hp] at ty
    obtain ⟨n, hn, hy⟩ := termy_part (.one ty)
    obtain ⟨N, ry⟩ := regY (.one ty)
    (first | refine ifF (decide_eq_false hp) ?_ | (refine ifT rfl ?_; first | refine ifF (decide_eq_false hp) ?_ | (refine ifT rfl ?_; refine ifF (decide_eq_false hp) ?_)))
    exact text_law hn (term1_part tx) hy (term1_part tz) rx ry rz hM hK h4 ec ⟨ea, ex, et, rfl, rfl⟩
end
section
open PySem.Calls PySem.Spec
theorem nodbg : ∀ p ∈ (sScope (stAt 49)).names, p.1 ≠ Str.ofString "__debug__" := by
  have h : (sScope (stAt 49)).names.all (fun p => p.1 != Str.ofString "__debug__") = true := by decide +kernel
  intro p hp
  have := List.all_eq_true.mp h p hp
  simpa using this
theorem loc_cons {P : Str → XV → Prop} {x : Str} {v : XV} {l : List (Str × XV)} (h : P x v) (hl : ∀ y z, l.lookup y = some z → P y z) : ∀ y z, ((x, v) :: l).lookup y = some z → P y z := by
  intro y z hy
  rw [List.lookup_cons] at hy
  cases e : y == x with
  | true => rw [e] at hy; cases hy; exact eq_of_beq e ▸ h
  | false => rw [e] at hy; exact hl y z hy
theorem cell_ne {h₀ h : Heap} {L a D : Addr} {o : Obj} {u : Option Value} {xs : Array Value} {n : Nat} {nw : List (Addr × Obj)} (N : News h₀ L h nw) (h1 : (a, o) ∈ nw) (h2 : (D, listOf xs n) ∈ nw) (hd : o.data = .cell u) : a ≠ D := fun e => by
  subst e
  have := (N _ h1).1.symm.trans (N _ h2).1
  cases this
  cases hd
theorem tail_use {w : World} {c0 c1 c2 c3 c4 : Int} {t0 t1 t2 t3 t4 : Tok} {n : Nat} {D b0 b1 b2 b3 : Addr} {o0 o1 o2 o3 : Obj} {mean : ExcName → Option Value} {mg mb : Str → Option Value} {dp un : Nat} {gd : Option (List Code)} {cn : Str} {a : Addr} {ccd : Value} {cl : List (Str × Addr)} {outer : List Env} {A₀ : Around} {base h₀ : Heap} {L : Addr} {m : Str → Option Value} {s : Shared} {Q : Flow → Shared → Prop} {E : Value → Shared → Prop}
    (B : Below A₀ base outer h₀) (F : Fr h₀ L s.heap m) (X : (heap w.params).In h₀) (N : News h₀ L s.heap [(b0, o0), (b1, o1), (b2, o2), (b3, o3), (D, listOf #[.int c0 t0, .int c1 t1, .int c2 t2, .int c3 t3, .int c4 t4] n)])
    (T : Top view (looseW view LOOSE) mean mg mb h₀) (hd : dp + 80 < recursionLimit) (hu : un + 8 * 80 < cLine)
    (pe : PassesOwn (MM w) (ktrTop dp un gd cn (sScope (stAt 49)) L a ccd cl outer) (envX cn (sScope (stAt 49)) L a ccd cl) E)
    (p0 : 0 ≤ c0) (p1 : 0 ≤ c1) (p2 : 0 ≤ c2) (p3 : 0 ≤ c3) (p4 : 0 ≤ c4) (l0 : cl.lookup (Str.ofString "cells") = some b0) (l1 : cl.lookup (Str.ofString "at") = some b1) (l2 : cl.lookup (Str.ofString "x") = some b2) (l3 : cl.lookup (Str.ofString "text") = some b3)
    (d0 : o0.data = .cell (some (.ref D))) (d1 : o1.data = .cell none) (d2 : o2.data = .cell none) (d3 : o3.data = .cell none) (h01 : b0 ≠ b1) (h02 : b0 ≠ b2) (h03 : b0 ≠ b3) (h12 : b1 ≠ b2) (h13 : b1 ≠ b3) (h23 : b2 ≠ b3)
    (K : ∀ h' tk' m' nw', Fr h₀ L h' m' → News h₀ L h' nw' → Q (.ret (.bool true)) { s with heap := h', toks := tk' }) :
    wpAny (MM w) (ktrTop dp un gd cn (sScope (stAt 49)) L a ccd cl outer) (execs ((sBody (stAt 49)).drop 1) (envX cn (sScope (stAt 49)) L a ccd cl)) Q E s := by
  have S : Sy ⟨cfgC w (sScope (stAt 49)) false 80, w, 80, mean, mg, mb, dp, un, gd, cn, sScope (stAt 49), L, a, ccd, cl, outer, A₀, base, h₀, E, envX cn (sScope (stAt 49)) L a ccd cl, none, fun _ => none⟩ :=
    ⟨⟨B, X, T, rfl, hd, hu, fun _ => Nat.le_of_ble_eq_true rfl, fun _ => rfl, nodbg, rfl, rfl, rfl, rfl, fun _ _ _ _ h => h⟩, rfl, rfl, pe⟩
  have hcl : TAll [] [.int c0 t0, .int c1 t1, .int c2 t2, .int c3 t3, .int c4 t4] [.int c0, .int c1, .int c2, .int c3, .int c4] := .cons (.int _ _) (.cons (.int _ _) (.cons (.int _ _) (.cons (.int _ _) (.cons (.int _ _) .nil))))
  have hD : (D, listOf #[.int c0 t0, .int c1 t1, .int c2 t2, .int c3 t3, .int c4 t4] n) ∈ [(b0, o0), (b1, o1), (b2, o2), (b3, o3), (D, listOf #[.int c0 t0, .int c1 t1, .int c2 t2, .int c3 t3, .int c4 t4] n)] := .tail _ (.tail _ (.tail _ (.tail _ (.head _))))
  refine (snd_S S 58).2 (tail_law (w := w) p0 p1 p2 p3 p4 (l := [(Str.ofString "cells", .o 0), (Str.ofString "at", .o 1), (Str.ofString "x", .o 2), (Str.ofString "text", .o 3)]) rfl rfl rfl rfl) (s := s)
    (T := ⟨s.heap, s.toks, m, [b0, b1, b2, b3, D], [(b0, o0), (b1, o1), (b2, o2), (b3, o3), (D, listOf #[.int c0 t0, .int c1 t1, .int c2 t2, .int c3 t3, .int c4 t4] n)], []⟩) ⟨F, by rw [List.append_nil]; exact N, .cell d0 (.is (.o rfl)) (.cell d1 .no (.cell d2 .no (.cell d3 .no (.lst hcl .nil)))), ?_, (fun _ h => nomatch h), (fun _ h => nomatch h), ?_⟩ ?_
  · have n0 := cell_ne N (.head _) hD d0
    have n1 := cell_ne N (.tail _ (.head _)) hD d1
    have n2 := cell_ne N (.tail _ (.tail _ (.head _))) hD d2
    have n3 := cell_ne N (.tail _ (.tail _ (.tail _ (.head _)))) hD d3
    show [b0, b1, b2, b3, D].Nodup
    simp [n0, n1, n2, n3, h01, h02, h03, h12, h13, h23]
  · have rd : ∀ {x : Str} {b : Addr}, isCell ((sScope (stAt 49)).names.lookup x) = true → cl.lookup x = some b → Rd ⟨cfgC w (sScope (stAt 49)) false 80, w, 80, mean, mg, mb, dp, un, gd, cn, sScope (stAt 49), L, a, ccd, cl, outer, A₀, base, h₀, E, envX cn (sScope (stAt 49)) L a ccd cl, none, fun _ => none⟩ m [] x (.ref b) := fun h1 h2 => (Rd.cellAt h1).mpr ⟨_, h2, rfl⟩
    exact loc_cons ⟨_, rd rfl l0, .o rfl, rfl⟩ (loc_cons ⟨_, rd rfl l1, .o rfl, rfl⟩ (loc_cons ⟨_, rd rfl l2, .o rfl, rfl⟩ (loc_cons ⟨_, rd rfl l3, .o rfl, rfl⟩ fun _ _ h => nomatch h)))
  · intro T2 fl xf l' ob' hw V2 G2 D2
    obtain rfl := hw
    cases D2 with
    | ret Dz =>
      obtain rfl := den_bool Dz
      exact K T2.h T2.tk T2.m _ V2.fr V2.N
end
section
open PySem.Calls PySem.Spec
theorem ints_app {us vs : List Value} {ns ms : List Int} (h : IntsAre us ns) (k : IntsAre vs ms) : IntsAre (us ++ vs) (ns ++ ms) := by
  induction h with
  | nil => exact k
  | cons n t _ ih => exact .cons n t ih
theorem ints_drop {vs : List Value} {ms : List Int} (h : IntsAre vs ms) : ∀ k : Nat, IntsAre (vs.drop k) (ms.drop k) := by
  induction h with
  | nil => intro k; rw [List.drop_nil, List.drop_nil]; exact .nil
  | cons n t h ih => intro k; cases k with | zero => exact .cons n t h | succ k => exact ih k
theorem ints_cons {vs : List Value} {m : Int} {ms : List Int} (h : IntsAre vs (m :: ms)) : ∃ t ws, vs = .int m t :: ws ∧ IntsAre ws ms := by
  cases h with | cons _ t k => exact ⟨t, _, rfl, k⟩
theorem five {zs : List Value} {ms : List Int} (h : IntsAre zs ms) (hl : ms.length = 5) (hp : ∀ m ∈ ms, 0 ≤ m) : ∃ c0 c1 c2 c3 c4 t0 t1 t2 t3 t4, zs = [.int c0 t0, .int c1 t1, .int c2 t2, .int c3 t3, .int c4 t4] ∧ 0 ≤ c0 ∧ 0 ≤ c1 ∧ 0 ≤ c2 ∧ 0 ≤ c3 ∧ 0 ≤ c4 := by
  match ms, hl with
  | [c0, c1, c2, c3, c4], _ =>
    obtain ⟨t0, w0, rfl, h0⟩ := ints_cons h
    obtain ⟨t1, w1, rfl, h1⟩ := ints_cons h0
    obtain ⟨t2, w2, rfl, h2⟩ := ints_cons h1
    obtain ⟨t3, w3, rfl, h3⟩ := ints_cons h2
    obtain ⟨t4, w4, rfl, h4⟩ := ints_cons h3
    cases h4
    exact ⟨c0, c1, c2, c3, c4, t0, t1, t2, t3, t4, rfl, hp _ (by simp), hp _ (by simp), hp _ (by simp), hp _ (by simp), hp _ (by simp)⟩
section
variable {prog : Program} {w : World} {A : Around} {E : Value → Shared → Prop} {s : Shared} {h₀ : Heap} {L l a b : Addr} {m : Str → Option Value} {news : List (Addr × Obj)} {vs us : List Value} {n n2 : Nat} {Q : Value → Shared → Prop} {value slice : Expr}
theorem sl_from {x : Int} {k : Nat} {u : Tok} (F : Fr h₀ L s.heap m) (N : News h₀ L s.heap news) (hl : (l, listOf vs.toArray n) ∈ news) (e : x = (k : Int)) (hz : vs.length ≤ 1000)
    (h : ∀ D h', Fr h₀ L h' m → News h₀ L h' ((D, listOf (vs.drop k).toArray 0) :: news) → (∀ p ∈ news, p.1 < D) → Q (.ref D) { s with heap := h' })
    (hs : subscripted slice false (.ref l) (.ref s.heap.objs.size) = operate [.ref s.heap.objs.size, .ref l] (getItem (.ref l) (.ref s.heap.objs.size))) (hg : ∀ r, letTemporaryGo value (.ref l) r = pure ()) :
    wpAny (model prog w) A (subscriptTail value slice (.ref l) (.ref s.heap.objs.size)) Q E { s with heap := s.heap.push { cls := .type "slice", data := .fields #[.int x u, .none, .none] } } := by
  subst e
  refine kmk_slice (its := vs.toArray) F N ⟨_, (N _ hl).1, rfl, n, rfl⟩ (.int _ _) .none (fun D h' F' N' l1 => h D h' F' ?_ l1) hs hg (by rw [List.size_toArray, sizeLine_eq]; lia -abstractProof)
  rw [slicePick_from'] at N'
  simpa using N'
theorem cells_add {ww : List Int} {k : Nat} (F : Fr h₀ L s.heap m) (N : News h₀ L s.heap news) (ha : (a, listOf us.toArray n) ∈ news) (hb : (b, listOf (vs.drop k).toArray n2) ∈ news)
    (hi : IntsAre us (List.map (fun k' => if k' < 0 then -k' else k') (List.take 5 ww))) (hj : IntsAre vs [0, 3, 1, 2, 16]) (hk : k = (List.take 5 ww).length)
    (h : ∀ c0 c1 c2 c3 c4 t0 t1 t2 t3 t4 D h', 0 ≤ c0 → 0 ≤ c1 → 0 ≤ c2 → 0 ≤ c3 → 0 ≤ c4 → Fr h₀ L h' m → News h₀ L h' ((D, listOf #[.int c0 t0, .int c1 t1, .int c2 t2, .int c3 t3, .int c4 t4] 0) :: news) → (∀ p ∈ news, p.1 < D) → Q (.ref D) { s with heap := h' }) :
    wpAny (model prog w) A (binaryOp .Add (.ref a) (.ref b)) Q E s := by
  have hI := ints_app hi (ints_drop hj k)
  have hl1 : (List.take 5 ww).length ≤ 5 := by rw [List.length_take]; lia -abstractProof
  obtain ⟨c0, c1, c2, c3, c4, t0, t1, t2, t3, t4, e, p0, p1, p2, p3, p4⟩ := five hI (by rw [List.length_append, List.length_map, List.length_drop, ← hk]; simp; lia -abstractProof) (by
    intro m hm
    rcases List.mem_append.mp hm with hm | hm
    · obtain ⟨y, _, rfl⟩ := List.mem_map.mp hm
      split <;> lia -abstractProof
    · have := List.mem_of_mem_drop hm
      simp only [List.mem_cons, List.not_mem_nil, or_false] at this
      lia -abstractProof)
  have hul := congrArg List.length e
  simp only [List.length_append, List.length_cons, List.length_nil] at hul
  refine kmk_add_lit F N ⟨_, (N _ ha).1, rfl, n, rfl⟩ ⟨_, (N _ hb).1, rfl, n2, rfl⟩ e (fun D h' F' N' l1 => h c0 c1 c2 c3 c4 t0 t1 t2 t3 t4 D h' p0 p1 p2 p3 p4 F' N' l1) ?_
  all_goals (first | (simp only [sizeLine_eq]; lia -abstractProof) | (show _ ≤ _; simp only [sizeLine_eq]; simp; lia -abstractProof) | skip)
end
end
section
open PySem.Calls PySem.Spec PyProof.Rows.LCg
noncomputable def StopC (p : Prop) : Prop := p
theorem stopC {p : Prop} (h : StopC p) : p := h
noncomputable def NoTs : Prop := True
local macro_rules | `(tactic| walk_at "subscriptTail") => `(tactic| (k_here; refine stopC ?_))
local macro_rules | `(tactic| walk_at "binaryOp Add ref ref") => `(tactic| (k_here; refine stopC ?_))
local macro_rules | `(tactic| walk_at "execs cons") => `(tactic| (k_here; (have hns9 : NoTs := by with_reducible assumption); clear hns9; refine stopC ?_))
theorem neA {x y : Addr} (h : @Ne Nat x y) : x ≠ y := h
theorem cell_of {o : Obj} {u : Option Value} (h : o.data = .cell u) (e : u = none) : o.data = .cell none := by rw [h, e]
theorem news_five {h₀ h : Heap} {L : Addr} {a b c d e f g1 g2 g3 z : Addr × Obj} (N : News h₀ L h [a, b, c, d, e, f, g3, g2, g1, z]) : News h₀ L h [z, g1, g2, g3, a] := fun p hp => N p (by
  simp only [List.mem_cons, List.not_mem_nil, or_false] at hp ⊢
  rcases hp with rfl | rfl | rfl | rfl | rfl <;> simp)
theorem lawX.tw14616240242452042370 : True := trivial
set_option rowWalk.seconds 0
set_option Elab.async true in
set_option maxHeartbeats 2400000 in
theorem lawX : LawT := by
  unfold LawT lawD
  k_go0; (all_goals try k_fold); k_steps
  unfold StopC
  refine kba_turn (value' := PySem.Expr.Name (PySem.Str.ofString "_") ⟨0, 0, 0, 0⟩) (fun _ => rfl) ?_
  k_dflt (refine' sl_from (vs := [.int 0 _, .int 3 _, .int 1 _, .int 2 _, .int 16 _]) ?k1 ?k2 ?k3 ?k4 ?k5 ?_ ?k7 ?k8)
  case k1 => k_asm
  case k2 => k_asm
  case k3 => k_mem
  case k4 => rfl
  case k5 => exact Nat.le_of_ble_eq_true rfl
  case k7 => with_unfolding_all rfl
  case k8 => kmk_pure
  intro D' h' F' N' l1
  (try k_lt l1); (try dsimp only)
  k_steps
  unfold StopC
  k_dflt (refine' cells_add ?k1 ?k2 ?k3 ?k4 ?k5 ?k6 ?k7 ?_)
  case k1 => k_asm
  case k2 => k_asm
  case k3 => k_mem
  case k4 => k_mem
  case k5 => with_reducible assumption
  case k6 => exact .cons _ _ (.cons _ _ (.cons _ _ (.cons _ _ (.cons _ _ .nil))))
  case k7 => first | rfl | assumption
  intro c0 c1 c2 c3 c4 t0 t1 t2 t3 t4 D' h' p0 p1 p2 p3 p4 F' N' l1
  (try k_lt l1); (try dsimp only); (try k_sweep)
  have hns : NoTs := trivial
  k_steps
  unfold StopC
  (rename News _ _ _ _ => N6)
  rename_i l1 _ _ _ _
  have N7 := news_five N6
  clear N6
  k_dflt (refine' tail_use ?k1 ?k2 ?k3 N7 ?k5 ?k6 ?k7 ?k8 (by assumption) (by assumption) (by assumption) (by assumption) (by assumption) ?l0 ?l1 ?l2 ?l3 ?d0 ?d1 ?d2 ?d3 ?h1 ?h2 ?h3 ?h4 ?h5 ?h6 ?K)
  case k1 => k_asm
  case k2 => k_asm
  case k3 => k_asm
  case k5 => k_asm
  case k6 => first | ktr_room | exact Nat.le_of_ble_eq_true rfl
  case k7 => first | ktr_units | exact Nat.le_of_ble_eq_true rfl
  case k8 => exact PassesOwn.leaving
  case l0 => rfl
  case l1 => rfl
  case l2 => rfl
  case l3 => rfl
  case d0 => assumption
  case d1 =>
    refine' cell_of ?hq11 ?hq12
    case hq11 => assumption
    case hq12 => rfl
  case d2 =>
    refine' cell_of ?hq21 ?hq22
    case hq21 => assumption
    case hq22 => rfl
  case d3 =>
    refine' cell_of ?hq31 ?hq32
    case hq31 => assumption
    case hq32 => rfl
  case h1 => exact neA (by lia -abstractProof)
  case h2 => exact neA (by lia -abstractProof)
  case h3 => exact neA (by lia -abstractProof)
  case h4 => exact neA (by lia -abstractProof)
  case h5 => exact neA (by lia -abstractProof)
  case h6 => exact neA (by lia -abstractProof)
  case K =>
    intro h9 tk9 m9 nw9 F9 N9
    (try dsimp only)
    k_steps
end
section
theorem hd.tw10458740792067480800 : True := trivial
theorem hd.tw9499510787657705874 : True := trivial
theorem hd.tw2608437505485318709 : True := trivial
theorem hd.tw17460560315489410215 : True := trivial
theorem hd.tw11117797201346649052 : True := trivial
theorem hd.tw2887051446865420828 : True := trivial
theorem hd.tw12112201142124510154 : True := trivial
theorem hd.tw15347494238783688032 : True := trivial
theorem hd.tw6407587892757256292 : True := trivial
theorem hd.tw221497870779424605 : True := trivial
theorem hd.tw4233181963852624665 : True := trivial
theorem hd.tw1865391376527767206 : True := trivial
theorem hd.tw4494801613693538912 : True := trivial
theorem hd.tw3451239065008710300 : True := trivial
theorem hd.tw13790719812936386609 : True := trivial
theorem hd.tw5875755337557543767 : True := trivial
theorem hd.tw16970440968685349367 : True := trivial
theorem hd.tw8228950375871286339 : True := trivial
theorem hd.tw10727248033764811480 : True := trivial
theorem hd.tw2386827423013361158 : True := trivial
theorem hd.tw17650839729002327288 : True := trivial
theorem hd.tw9141302689577602353 : True := trivial
theorem hd.tw5987830557187376847 : True := trivial
theorem hd.tw5366084841770067474 : True := trivial
theorem hd.tw16473244170626142550 : True := trivial
theorem hd.tw9427301549700849589 : True := trivial
theorem hd.tw1589133516308662214 : True := trivial
theorem hd.tw14176624398918483544 : True := trivial
theorem hd.tw7914949630228597729 : True := trivial
theorem hd.tw11128854368766332075 : True := trivial
theorem hd.tw15852365999677673905 : True := trivial
theorem hd.tw17599816209265215132 : True := trivial
theorem hd.tw395138700845864316 : True := trivial
theorem hd.tw6082411064634330575 : True := trivial
theorem hd.tw3789350110615891812 : True := trivial
theorem hd.tw18343703819029505601 : True := trivial
theorem hd.tw1997569388931296116 : True := trivial
theorem hd.tw8789358453043137523 : True := trivial
theorem hd.tw11232374478483605306 : True := trivial
theorem hd.tw11251137523995926341 : True := trivial
theorem hd.tw16299908979028503884 : True := trivial
theorem hd.tw13483081372092288885 : True := trivial
theorem hd.tw7510230149288206974 : True := trivial
theorem hd.tw5608270528595127837 : True := trivial
theorem hd.tw10879034167726328663 : True := trivial
theorem hd.tw10614716105012338702 : True := trivial
theorem hd.tw5373601922739893978 : True := trivial
theorem hd.tw17042694160793651959 : True := trivial
theorem hd.tw10949625832625181284 : True := trivial
theorem hd.tw5343241284826551009 : True := trivial
theorem hd.tw17177331786930743035 : True := trivial
theorem hd.tw17447410573909459338 : True := trivial
theorem hd.tw15642763164714097627 : True := trivial
theorem hd.tw5978321128707920903 : True := trivial
theorem hd.tw17948085552500728524 : True := trivial
theorem hd.tw13372043803930879067 : True := trivial
theorem hd.tw16412773359747925120 : True := trivial
theorem hd.tw3381375190539634487 : True := trivial
theorem hd.tw18166333605607142505 : True := trivial
theorem hd.tw11319097763535126812 : True := trivial
theorem hd.tw15673258824015622330 : True := trivial
theorem hd.tw17054507655720011243 : True := trivial
theorem hd.tw9641152695372364146 : True := trivial
theorem hd.tw9557236495431379559 : True := trivial
theorem hd.tw2867327485932766208 : True := trivial
theorem hd.tw1011335219593555734 : True := trivial
theorem hd.tw10601615944963115059 : True := trivial
theorem hd.tw14103535550066685397 : True := trivial
theorem hd.tw9566141503761928105 : True := trivial
theorem hd.tw7289634563603522867 : True := trivial
theorem hd.tw4478166936697009375 : True := trivial
theorem hd.tw17714235663813219645 : True := trivial
theorem hd.tw3182187488490625086 : True := trivial
theorem hd.tw17901334829092211166 : True := trivial
theorem hd.tw8428860471423672150 : True := trivial
theorem hd.tw11136197038861592535 : True := trivial
theorem hd.tw9783614193127449063 : True := trivial
theorem hd.tw14400467628812073631 : True := trivial
theorem hd.tw10743916045514856203 : True := trivial
theorem hd.tw3915529967508079626 : True := trivial
theorem hd.tw13368278939475635651 : True := trivial
theorem hd.tw18300207936620678264 : True := trivial
theorem hd.tw5148922909946612681 : True := trivial
theorem hd.tw4065347644161347641 : True := trivial
theorem hd.tw6924109203229866365 : True := trivial
theorem hd.tw18293732401869909652 : True := trivial
theorem hd.tw12631932088317031055 : True := trivial
theorem hd.tw3229955645248102723 : True := trivial
theorem hd.tw2225492998660141991 : True := trivial
theorem hd.tw7519716089354478335 : True := trivial
theorem hd.tw11652457597714270106 : True := trivial
theorem hd.tw7754304195085646258 : True := trivial
theorem hd.tw4014540891139286612 : True := trivial
theorem hd.tw16064382804478563927 : True := trivial
theorem hd.tw15344866539931968096 : True := trivial
theorem hd.tw15042006015671813226 : True := trivial
theorem hd.tw4272726840584523970 : True := trivial
theorem hd.tw16853341256802265648 : True := trivial
theorem hd.tw10424393626065333798 : True := trivial
theorem hd.tw4172343393113369950 : True := trivial
theorem hd.tw12507593775071373291 : True := trivial
theorem hd.tw11893437276241958245 : True := trivial
theorem hd.tw18322514126500204803 : True := trivial
theorem hd.tw11402939732021071671 : True := trivial
theorem hd.tw2442259710966052079 : True := trivial
theorem hd.tw16194383521188589630 : True := trivial
theorem hd.tw3259873300814134281 : True := trivial
theorem hd.tw189712035060473897 : True := trivial
theorem hd.tw9386895884608548742 : True := trivial
theorem hd.tw6123773746684550334 : True := trivial
theorem hd.tw13267510147771200024 : True := trivial
theorem hd.tw10583446816852156582 : True := trivial
theorem hd.tw16772102934027710169 : True := trivial
theorem hd.tw11054480109507316185 : True := trivial
theorem hd.tw6264232113106981867 : True := trivial
theorem hd.tw14560493823538711346 : True := trivial
theorem hd.tw6164396464334811476 : True := trivial
theorem hd.tw6442067068224118133 : True := trivial
theorem hd.tw2068664650715991707 : True := trivial
theorem hd.tw14478148883734587675 : True := trivial
theorem hd.tw15103106377680225435 : True := trivial
theorem hd.tw9719896912496429819 : True := trivial
theorem hd.tw2274498078352570744 : True := trivial
theorem hd.tw6838551448383532254 : True := trivial
theorem hd.tw11660266114150955751 : True := trivial
theorem hd.tw12614811148066621264 : True := trivial
theorem hd.tw17311223219408574766 : True := trivial
theorem hd.tw2216850387143573719 : True := trivial
theorem hd.tw7355570028127101125 : True := trivial
theorem hd.tw16904818350239718627 : True := trivial
theorem hd.tw4993660671451451078 : True := trivial
theorem hd.tw8025032847418708242 : True := trivial
theorem hd.tw17606422857730326317 : True := trivial
theorem hd.tw9724358948501437256 : True := trivial
theorem hd.tw4851647983119433812 : True := trivial
theorem hd.tw307737655149646647 : True := trivial
theorem hd.tw11319892378374348655 : True := trivial
theorem hd.tw12271959270614036898 : True := trivial
theorem hd.tw10111801491309104144 : True := trivial
theorem hd.tw6411954120941647267 : True := trivial
theorem hd.tw10525666975642140466 : True := trivial
theorem hd.tw16828841361933241965 : True := trivial
theorem hd.tw15089522573102190283 : True := trivial
theorem hd.tw11213053971927718326 : True := trivial
theorem hd.tw8824441977032169737 : True := trivial
theorem hd.tw11032806212648032379 : True := trivial
theorem hd.tw17047115858639842297 : True := trivial
theorem hd.tw3452082135128663414 : True := trivial
theorem hd.tw12070051907170230399 : True := trivial
theorem hd.tw17950676927832955104 : True := trivial
theorem hd.tw1241404454085649124 : True := trivial
theorem hd.tw9421340871869096474 : True := trivial
theorem hd.tw6598312636042714100 : True := trivial
theorem hd.tw10216474801634566288 : True := trivial
theorem hd.tw1382963296337349011 : True := trivial
theorem hd.tw17183224562656869120 : True := trivial
theorem hd.tw991583007596301734 : True := trivial
theorem hd.tw464777395874653626 : True := trivial
theorem hd.tw12173100003817136821 : True := trivial
theorem hd.tw5036846961687405229 : True := trivial
theorem hd.tw14620637471214046174 : True := trivial
theorem hd.tw18093812233618175256 : True := trivial
theorem hd.tw9170477692918782315 : True := trivial
theorem hd.tw728884934406724761 : True := trivial
theorem hd.tw4115565904173853331 : True := trivial
theorem hd.tw5190246844813560578 : True := trivial
theorem hd.tw8047900516022102942 : True := trivial
theorem hd.tw13866372431405929976 : True := trivial
theorem hd.tw7296583596125217682 : True := trivial
theorem hd.tw26425463804135960 : True := trivial
theorem hd.tw3219085151875037572 : True := trivial
theorem hd.tw13225837485096350037 : True := trivial
theorem hd.tw4856431653887292112 : True := trivial
theorem hd.tw5363564295841288755 : True := trivial
theorem hd.tw2603259988358896889 : True := trivial
theorem hd.tw8990313861142287110 : True := trivial
theorem hd.tw11953376511379268794 : True := trivial
theorem hd.tw18103342009636024947 : True := trivial
theorem hd.tw1013155817946168525 : True := trivial
theorem hd.tw16477043939570097188 : True := trivial
theorem hd.tw1847840615245081061 : True := trivial
theorem hd.tw3109861748172591687 : True := trivial
theorem hd.tw4225703048834024713 : True := trivial
theorem hd.tw10170382586518783626 : True := trivial
theorem hd.tw17317534308005170540 : True := trivial
theorem hd.tw1506431575118746342 : True := trivial
theorem hd.tw3919010098100093602 : True := trivial
theorem hd.tw9277588360372424766 : True := trivial
theorem hd.tw8117029840178788049 : True := trivial
theorem hd.tw15166520500009309586 : True := trivial
theorem hd.tw15416985209724490359 : True := trivial
theorem hd.tw15837987909243819085 : True := trivial
theorem hd.tw15759970867653108152 : True := trivial
theorem hd.tw10603584201595350602 : True := trivial
theorem hd.tw12588582704262371052 : True := trivial
theorem hd.tw2323474266016966308 : True := trivial
theorem hd.tw1413172679324656950 : True := trivial
theorem hd.tw12629568148972539762 : True := trivial
theorem hd.tw922143313871775805 : True := trivial
theorem hd.tw6767318904944593275 : True := trivial
theorem hd.tw10784824025267889561 : True := trivial
theorem hd.tw1600037746751723098 : True := trivial
theorem hd.tw5732804406350252772 : True := trivial
theorem hd.tw17673860158736603733 : True := trivial
theorem hd.tw3646829019195819677 : True := trivial
theorem hd.tw12399718760709695909 : True := trivial
theorem hd.tw12092154237167983948 : True := trivial
theorem hd.tw7068711184596962023 : True := trivial
theorem hd.tw9345676750909349944 : True := trivial
theorem hd.tw2999033326186475339 : True := trivial
theorem hd.tw6394381022753523788 : True := trivial
theorem hd.tw14705683404202351889 : True := trivial
theorem hd.tw12487502673411948298 : True := trivial
theorem hd.tw6293948785866598258 : True := trivial
theorem hd.tw212345690472687942 : True := trivial
theorem hd.tw16211521421427940678 : True := trivial
theorem hd.tw18245042118932799458 : True := trivial
theorem hd.tw3795277891434052102 : True := trivial
theorem hd.tw1439246655266547700 : True := trivial
theorem hd.tw17062030032774818151 : True := trivial
theorem hd.tw10258999931320997221 : True := trivial
theorem hd.tw11513968764499736323 : True := trivial
theorem hd.tw461538923250603899 : True := trivial
theorem hd.tw12023040214023829324 : True := trivial
theorem hd.tw6196171512934965099 : True := trivial
theorem hd.tw5278057926702712004 : True := trivial
theorem hd.tw14260913966351254405 : True := trivial
theorem hd.tw16945582573551092051 : True := trivial
theorem hd.tw8735263284916673568 : True := trivial
theorem hd.tw14955159897011116063 : True := trivial
theorem hd.tw12901994302517312135 : True := trivial
theorem hd.tw6990203504111849199 : True := trivial
theorem hd.tw16345102440705955213 : True := trivial
theorem hd.tw13919464512627920130 : True := trivial
theorem hd.tw17087091549796120035 : True := trivial
theorem hd.tw7752767780024739350 : True := trivial
theorem hd.tw11754176132448286083 : True := trivial
theorem hd.tw9960721518486171458 : True := trivial
theorem hd.tw978945382295711627 : True := trivial
theorem hd.tw758273949599710562 : True := trivial
theorem hd.tw1129884963351977449 : True := trivial
theorem hd.tw1359830224848277088 : True := trivial
theorem hd.tw8959176491354863721 : True := trivial
theorem hd.tw13609717118414637909 : True := trivial
theorem hd.tw8001178428526945343 : True := trivial
theorem hd.tw11917015161858427179 : True := trivial
theorem hd.tw8716120427605611371 : True := trivial
theorem hd.tw13828106393651249627 : True := trivial
theorem hd.tw17975533764899295144 : True := trivial
theorem hd.tw14457593812595234344 : True := trivial
theorem hd.tw1222794163293265305 : True := trivial
theorem hd.tw11902302402261749642 : True := trivial
theorem hd.tw3350844169311001129 : True := trivial
theorem hd.tw7120233287515763914 : True := trivial
theorem hd.tw11006295307154197183 : True := trivial
theorem hd.tw4706079058837389440 : True := trivial
theorem hd.tw1192131362235345409 : True := trivial
theorem hd.tw12003250920018769726 : True := trivial
theorem hd.tw6820862383352777685 : True := trivial
theorem hd.tw8112040973832200146 : True := trivial
theorem hd.tw16240987189780228909 : True := trivial
theorem hd.tw2327210489368252092 : True := trivial
theorem hd.tw9673543361469618366 : True := trivial
theorem hd.tw11210553801493137410 : True := trivial
theorem hd.tw8960069828448710407 : True := trivial
theorem hd.tw7028611270464810887 : True := trivial
theorem hd.tw1836080755315867724 : True := trivial
theorem hd.tw15368132723985388332 : True := trivial
theorem hd.tw1580110805410547442 : True := trivial
theorem hd.tw5130813555471234732 : True := trivial
theorem hd.tw8268277133935991078 : True := trivial
theorem hd.tw701787995468756871 : True := trivial
theorem hd.tw6305734824756694309 : True := trivial
theorem hd.tw8458067239894703972 : True := trivial
theorem hd.tw6276725880618359904 : True := trivial
theorem hd.tw3830495021800159684 : True := trivial
theorem hd.tw7366208706002141716 : True := trivial
theorem hd.tw17672654358674132775 : True := trivial
theorem hd.tw9657781627882305391 : True := trivial
theorem hd.tw10403243965636340961 : True := trivial
theorem hd.tw18219297243305740317 : True := trivial
theorem hd.tw15595854959937240912 : True := trivial
theorem hd.tw16056359734778111409 : True := trivial
theorem hd.tw12949589719889679912 : True := trivial
theorem hd.tw11631947586910100387 : True := trivial
theorem hd.tw1800889605409440832 : True := trivial
theorem hd.tw4360684699965382250 : True := trivial
theorem hd.tw6545403380812914513 : True := trivial
theorem hd.tw4315991029959535628 : True := trivial
theorem hd.tw9748044761591592747 : True := trivial
theorem hd.tw3759623122121258479 : True := trivial
theorem hd.tw17542962492245011380 : True := trivial
theorem hd.tw8727321023445011275 : True := trivial
theorem hd.tw2195365466389143174 : True := trivial
theorem hd.tw1760603350576429475 : True := trivial
theorem hd.tw1097998534492414930 : True := trivial
theorem hd.tw17258206423299326598 : True := trivial
theorem hd.tw4377701919642642989 : True := trivial
theorem hd.tw3493717111155160527 : True := trivial
theorem hd.tw4702841417184801058 : True := trivial
theorem hd.tw15529170255622000948 : True := trivial
theorem hd.tw7540655947842036084 : True := trivial
theorem hd.tw13903934854276604550 : True := trivial
theorem hd.tw5511420028821071320 : True := trivial
theorem hd.tw6555240042291301478 : True := trivial
theorem hd.tw8226494294326810461 : True := trivial
theorem hd.tw6830512106363814048 : True := trivial
theorem hd.tw15833661619300960221 : True := trivial
theorem hd.tw11389486352061984695 : True := trivial
theorem hd.tw17681399029576232318 : True := trivial
theorem hd.tw14616240242452042370 : True := trivial
theorem hd.tw5657824000916062451 : True := trivial
theorem hd.tw7023726343779634624 : True := trivial
theorem hd.tw11162318198679636149 : True := trivial
theorem hd.tw7082855905992002993 : True := trivial
theorem hd.tw3571134770919094901 : True := trivial
theorem hd.tw5174551420813472067 : True := trivial
theorem hd.tw8457440626546761165 : True := trivial
theorem hd.tw2391449824757734642 : True := trivial
set_option Elab.async true in
set_option maxHeartbeats 8000000 in
theorem hd : PySem.Challenge.rw_sa0370_02.Holds := by
  (w_on; o_law; k_head; (case hw => w_witness2); exact lawX)
end
end Mine
set_option maxRecDepth 100000 in
set_option maxHeartbeats 8000000 in
theorem PySem.Challenge.cw_sa0370_02_holds : PySem.Challenge.rw_sa0370_02.Holds :=
  Mine.hd

